import PyProof.Rows.All
import Wide.All
import OpenK.AllK
import Wide.FinOn
import PySem.Challenge.RW_rh0087_01
set_option maxRecDepth 100000
set_option linter.all false
set_option backward.defeqAttrib.useBackward true
set_option tactic.hygienic false
set_option genSizeOf false
set_option backward.match.sparseCases false
set_option maxHeartbeats 4000000
namespace Mine
open PySem PySem.W PySem.Calls PyProof.Rows PySem.SeqAt
theorem zC5 {G : Prop} (h : ∀ P : Prop, (G → P) → P) : G := h G id
def tk (k : Lean.Name) (s : String) : Lean.Syntax := .node .none k #[Lean.mkAtom s]
def ts (xs : Array Lean.Syntax) : Lean.Syntax := .node .none `Lean.Parser.Tactic.tacticSeq #[.node .none `Lean.Parser.Tactic.tacticSeq1Indented #[.node .none `null xs]]
def tR : Lean.Syntax := tk `Lean.Parser.Tactic.tacticRfl "rfl"
def tI (x : Lean.Syntax) : Lean.Syntax := ts #[.node .none `Lean.Parser.Tactic.intros #[Lean.mkAtom "intros", .node .none `null #[]], Lean.mkAtom ";", x]
def tW : Lean.Syntax := .node .none `Lean.Parser.Tactic.withUnfoldingAll #[Lean.mkAtom "with_unfolding_all", ts #[tR]]
def auK : Lean.Syntax := ts #[tk `tacticKernel_rfl "kernel_rfl"]
def auD : Lean.Syntax := ts #[.node .none `Lean.Parser.Tactic.decide #[Lean.mkAtom "decide", .node .none `Lean.Parser.Tactic.optConfig #[.node .none `null #[.node .none `Lean.Parser.Tactic.configItem #[.node .none `Lean.Parser.Tactic.posConfigItem #[Lean.mkAtom "+", Lean.mkIdent `kernel]]]]]]
def auI : Lean.Syntax := tI tR
def auN : Lean.Syntax := ts #[tk `Lean.Parser.Tactic.tacticNofun "nofun"]
def auR : Lean.Syntax := ts #[tR]
def auA : Lean.Syntax := ts #[tk `Lean.Parser.Tactic.assumption "assumption"]
def auW : Lean.Syntax := ts #[tW]
def auU : Lean.Syntax := tI tW
def auC : Lean.Syntax := ts #[tk `Lean.Parser.Tactic.constructor "constructor"]
inductive V where
  | none
  | bool (b : Bool)
  | int (i : Int)
  | str (s : Str)
  | tup (xs : List V)
  | ref (a : Addr)
  | ty (T : String)
  | bi (id : String)
mutual
noncomputable def Re (h : Heap) : V → Value → Prop
  | .none, v => v = .none
  | .bool b, v => v = .bool b
  | .int i, v => ∃ t, v = .int i t
  | .str s, v => ∃ t, v = .str s t
  | .tup xs, v => ∃ a its, v = .ref a ∧ IsTup h a its ∧ ReL h xs its.toList
  | .ref a, v => v = .ref a
  | .ty T, v => v = .type T
  | .bi i, v => v = .builtin i
noncomputable def ReL (h : Heap) : List V → List Value → Prop
  | [], vs => vs = []
  | x :: xs, vs => ∃ v vs', vs = v :: vs' ∧ Re h x v ∧ ReL h xs vs'
end
noncomputable def Tk (h h' : Heap) : Prop := ∀ a o its n, h.get? a = some o → o.cls = .type "tuple" → o.data = .seq its n → h'.get? a = some o
noncomputable def NT (o : Obj) : Prop := o.cls = .type "tuple" → ∀ its n, o.data ≠ .seq its n
theorem Tk.refl (h : Heap) : Tk h h := fun _ _ _ _ e _ _ => e
theorem Tk.trans {h h' h'' : Heap} (x : Tk h h') (y : Tk h' h'') : Tk h h'' := fun a o i n e c d => y a o i n (x a o i n e c d) c d
theorem Tk.of_keep {h h' : Heap} (k : ∀ b o, h.get? b = some o → h'.get? b = some o) : Tk h h' := fun a o _ _ e _ _ => k a o e
theorem isTup_tk {h h' : Heap} {a its} (x : IsTup h a its) (k : Tk h h') : IsTup h' a its := by
  obtain ⟨o, ho, hc, n, r⟩ := x
  exact ⟨o, k a o _ _ ho hc r, hc, n, r⟩
mutual
theorem Re.tk {h h' : Heap} (k : Tk h h') : ∀ {x : V} {v : Value}, Re h x v → Re h' x v
  | .none, _, e => e
  | .bool _, _, e => e
  | .int _, _, e => e
  | .str _, _, e => e
  | .tup _, _, ⟨a, its, e, t, l⟩ => ⟨a, its, e, isTup_tk t k, ReL.tk k l⟩
  | .ref _, _, e => e
  | .ty _, _, e => e
  | .bi _, _, e => e
theorem ReL.tk {h h' : Heap} (k : Tk h h') : ∀ {xs : List V} {vs : List Value}, ReL h xs vs → ReL h' xs vs
  | [], _, e => e
  | _ :: _, _, ⟨v, vs', e, a, b⟩ => ⟨v, vs', e, Re.tk k a, ReL.tk k b⟩
end
theorem ReL.length {h : Heap} : ∀ {xs : List V} {vs : List Value}, ReL h xs vs → vs.length = xs.length := by
  intro zz
  induction zz with
  | nil =>
    intro _ e
    rw [show _ = [] from e]; rfl
  | cons _ _ ih =>
    rintro _ ⟨_, _, e, _, b⟩
    simp only [e, List.length_cons, List.length_cons, ih b]
theorem ReL.get {h : Heap} : ∀ {xs : List V} {vs : List Value} {i : Nat} {x : V}, ReL h xs vs → xs[i]? = some x → ∃ v, vs[i]? = some v ∧ Re h x v := by
  intro zz
  induction zz with
  | nil =>
    intro _ _ _ _ e
    simp at e
  | cons _ _ ih =>
    intro _ zz2
    cases zz2 with
    | zero =>
      rintro _ ⟨v, _, e, a, _⟩ q
      obtain rfl := Option.some.inj q; exact ⟨v, by rw [e]; rfl, a⟩
    | succ i =>
      intro _ hz1 q
      refine zC5 fun _ hk => ?_
      obtain ⟨v, vs', e, _, b⟩ := hz1
      refine hk ?_
      rw [e]
      exact ih (i := i) b (by simpa using q)
theorem ReL.append {h : Heap} : ∀ {xs ys : List V} {vs us : List Value}, ReL h xs vs → ReL h ys us → ReL h (xs ++ ys) (vs ++ us) := by
  intro zz
  induction zz with
  | nil =>
    intro _ _ _ e q
    rw [show _ = [] from e]; exact q
  | cons _ _ ih =>
    intro _ _ _ hz3 q
    refine zC5 fun _ hk => ?_
    obtain ⟨v, vs', e, a, b⟩ := hz3
    refine hk ?_
    exact ⟨v, vs' ++ _, by rw [e]; rfl, a, ih b q⟩
theorem ReL.drop {h : Heap} : ∀ {xs : List V} {vs : List Value} (n : Nat), ReL h xs vs → ReL h (xs.drop n) (vs.drop n) := by
  intro zz0 zz1 zz
  induction zz generalizing zz0 zz1 with
  | zero =>
    intro e
    exact e
  | succ n ih =>
    cases zz0 with
    | nil =>
      intro e
      rw [show _ = [] from e]; rfl
    | cons _ _ =>
      intro hz0
      refine zC5 fun _ hk => ?_
      obtain ⟨_, _, e, _, b⟩ := hz0
      refine hk ?_
      simp only [e]; exact ih b
theorem ReL.take {h : Heap} : ∀ {xs : List V} {vs : List Value} (n : Nat), ReL h xs vs → ReL h (xs.take n) (vs.take n) := by
  intro zz0 zz1 zz
  induction zz generalizing zz0 zz1 with
  | zero =>
    intro _
    exact rfl
  | succ n ih =>
    cases zz0 with
    | nil =>
      intro e
      rw [show _ = [] from e]; exact rfl
    | cons _ _ =>
      intro hz0
      refine zC5 fun _ hk => ?_
      obtain ⟨v, vs', e, a, b⟩ := hz0
      refine hk ?_
      simp only [e]; exact ⟨v, vs'.take n, rfl, a, ih b⟩
theorem ReL.set {h : Heap} : ∀ {xs : List V} {vs : List Value} {i : Nat} {x : V} {v : Value}, ReL h xs vs → Re h x v → ReL h (xs.set i x) (vs.set i v) := by
  intro zz
  induction zz with
  | nil =>
    intro _ _ _ _ e _
    rw [show _ = [] from e]; simp [ReL]
  | cons _ _ ih =>
    intro _ zz2
    cases zz2 with
    | zero =>
      intro _ v hz2 q
      refine zC5 fun _ hk => ?_
      obtain ⟨_, vs', e, _, b⟩ := hz2
      refine hk ?_
      rw [e]; exact ⟨v, vs', rfl, q, b⟩
    | succ i =>
      intro _ _ hz2 q
      refine zC5 fun _ hk => ?_
      obtain ⟨u, vs', e, a, b⟩ := hz2
      refine hk ?_
      rw [e]; exact ⟨u, vs'.set i _, rfl, a, ih b q⟩
theorem ReL.nil {h : Heap} : ReL h [] [] := rfl
theorem ReL.cons {h : Heap} {x : V} {v : Value} {xs vs} (a : Re h x v) (b : ReL h xs vs) : ReL h (x :: xs) (v :: vs) := ⟨v, vs, rfl, a, b⟩
inductive AO where
  | list (xs : List V)
  | dictE (ep : Nat)
  | dictI (ep : Nat) (es : List (Int × V))
  | dictS (es : List (Str × V))
  | dictT (n : Nat)
  | rng (lo hi : Int)
  | inst (C d : Addr) (fs : List (Str × V))
  | own (a : Addr)
  | tab (b : Bool)
noncomputable def lamPos : Pos := ⟨208, 35, 208, 76⟩
noncomputable def AO.isD : AO → Bool
  | .dictE _ => true
  | .dictI _ _ => true
  | .dictS _ => true
  | .dictT _ => true
  | _ => false
noncomputable abbrev AH := Addr → Option AO
noncomputable def AH.set (H : AH) (a : Addr) (o : AO) : AH := fun b => if b = a then some o else H b
noncomputable def ReP {K : Type} (h : Heap) : List (K × V) → List (K × Value) → Prop
  | [], vs => vs = []
  | x :: xs, vs => ∃ v vs', vs = (x.1, v) :: vs' ∧ Re h x.2 v ∧ ReP h xs vs'
theorem ReP.tk {K : Type} {h h' : Heap} (k : Tk h h') : ∀ {xs : List (K × V)} {vs : List (K × Value)}, ReP h xs vs → ReP h' xs vs := by
  intro zz
  induction zz with
  | nil =>
    intro _ e
    exact e
  | cons _ _ ih =>
    rintro _ ⟨v, vs', e, a, b⟩
    exact ⟨v, vs', e, a.tk k, ih b⟩
theorem ReP.length {K : Type} {h : Heap} : ∀ {xs : List (K × V)} {vs : List (K × Value)}, ReP h xs vs → vs.length = xs.length := by
  intro zz
  induction zz with
  | nil =>
    intro _ e
    rw [show _ = [] from e]; rfl
  | cons _ _ ih =>
    intro _ hz1
    refine zC5 fun _ hk => ?_
    obtain ⟨_, _, e, _, b⟩ := hz1
    refine hk ?_
    simp only [e, List.length_cons, List.length_cons, ih b]
noncomputable def attrL : List (Addr × Str) := [(154, "texts"), (154, "atom_numbers"), (154, "functors"), (154, "functor_numbers"),
  (217, "kind"), (217, "number"), (217, "start"), (217, "stop"), (278, "taken"), (278, "home"),
  (397, "next_value"), (397, "value_of"), (397, "held"), (397, "incoming"), (397, "outgoing")]
noncomputable def methL : List (Addr × Str × Addr) := [(154, "atom", 88), (154, "functor", 102), (154, "func", 109), (217, "overlaps", 214),
  (278, "occupy", 254), (278, "is_free", 261), (278, "wished", 268), (278, "place", 275),
  (397, "new_value", 331), (397, "same_read", 338), (397, "same_write", 345), (397, "write", 352), (397, "copied_value", 359), (397, "same_shape", 366),
  (397, "matches", 373), (397, "arguments_stand", 380), (397, "advance", 387), (397, "left_out", 394)]
noncomputable def makeL : List (Addr × Addr) := [(154, 81), (217, 207), (278, 247), (397, 324)]
noncomputable def fnL : List Addr := [60, 67, 186, 193, 226, 233, 289, 296, 303, 310, 408, 415, 422, 429, 436, 443, 450]
noncomputable def globL : List (Str × Addr) := [("fixed_atoms", 60), ("fixed_functors", 67), ("Symbols", 154), ("operand_roles", 186), ("ends_arguments", 193), ("Occupation", 217), ("intervals", 226), ("wishes", 233),
  ("RegisterFile", 278), ("by_start", 289), ("real_operand", 296), ("allocate", 303), ("greatest", 310), ("AllocationCheck", 397), ("operand_twice", 408), ("check_allocation", 415),
  ("_law_digit", 422), ("_law_got", 429), ("_law_rows", 436), ("_law_stretch", 443), ("_law_is_copy", 450)]
noncomputable def globI : List (Str × Int) := [("READS", 1), ("WRITES", 2), ("UPDATES", 3)]
noncomputable def globB : List Str := ["len", "isinstance", "tuple", "range", "sorted", "str"]
noncomputable def globOf (x : Str) : Option Addr := (globL.find? fun p => p.1 == x).map (·.2)
noncomputable def globIOf (x : Str) : Option Int := (globI.find? fun p => p.1 == x).map (·.2)
noncomputable def fnHas (f : Addr) : Bool := fnL.contains f
noncomputable def attrHas (C : Addr) (x : Str) : Bool := attrL.any fun p => p.1 == C && p.2 == x
noncomputable def methOf (C : Addr) (x : Str) : Option Addr := (methL.find? fun p => p.1 == C && p.2.1 == x).map (·.2.2)
noncomputable def makeOf (C : Addr) : Option Addr := (makeL.find? fun p => p.1 == C).map (·.2)
noncomputable def attrOk (K : Frag) (C : Addr) (name : Str) : Bool := plainGet K C name && hasDictIn K C && (match findIn K (.ref C) name with | some attr => noGet K attr | none => false) &&
  findIn K (.ref C) "__setattr__" == some (some (.builtin "object.__setattr__")) && plainOver K C && takerIn K C name == some none
noncomputable def methOk (K : Frag) (C : Addr) (name : Str) (f : Addr) : Bool := plainGet K C name && findIn K (.ref C) name == some (some (.ref f)) && isFn K (.ref f) && !attrHas C name && keepIn K (.ref f)
noncomputable def makeOk (K : Frag) (C f : Addr) : Bool := makesIn K C && findIn K (.ref C) "__init__" == some (some (.ref f)) && isFn K (.ref f) && keepIn K (.ref C)
noncomputable def fP : Stmt → Str × Arguments × List Stmt × Scope × Option Expr
  | .FunctionDef n a b _ _ _ sc .. => (n, a, b, sc, none)
  | .ClassDef _ _ _ b .. => (Str.empty, ⟨[], [], none, [], [], none, []⟩, b, default, none)
  | .Return e _ => (Str.empty, ⟨[], [], none, [], [], none, []⟩, [], default, e)
  | _ => (Str.empty, ⟨[], [], none, [], [], none, []⟩, [], default, none)
noncomputable def fName (s : Stmt) : Str := (fP s).1
noncomputable def fArgs (s : Stmt) : Arguments := (fP s).2.1
noncomputable def fBody (s : Stmt) : List Stmt := (fP s).2.2.1
noncomputable def fScope (s : Stmt) : Scope := (fP s).2.2.2.1
theorem noB {p : Prop} (h : false = true) : p := nomatch h
theorem noS {α : Type} {x : α} {p : Prop} (h : none = some x) : p := nomatch h
inductive FnAt (K : Frag) (f : Addr) (S : Stmt) (qual : Str) : Prop
  | of : ∀ oc od osl pm cdv, (K.lookup f = some ⟨oc, od, .func (fnOf (fName S) qual (fArgs S) (fBody S) (fScope S) .none .none .none pm none cdv .none), osl⟩) → (codeIn K cdv qual = true) → FnAt K f S qual
set_option genInjectivity false in
structure Cx where
  prog : Program
  w : World
  K : Frag
  B : Heap
  p : Program
  loose : List Str
  mg : Str → Option Value
  mb : Str → Option Value
  X : K.In B
  T : TopRead p loose mg mb B
  hA : (attrL.all fun p => attrOk K p.1 p.2) = true
  hM : (methL.all fun p => methOk K p.1 p.2.1 p.2.2) = true
  hN : (makeL.all fun p => makeOk K p.1 p.2) = true
  hF : (fnL.all fun f => keepIn K (.ref f)) = true
  hG : (globL.all fun p => nsIn K mainGlobals p.1 == some (some (.ref p.2))) = true
  hI : (globI.all fun p => match nsIn K mainGlobals p.1 with | some (some (.int i _)) => i == p.2 | _ => false) = true
  hB : (globB.all fun x => nsIn K mainGlobals x == some none) = true
theorem Cx.glob (c : Cx) {x : Str} {a : Addr} (h : globOf x = some a) : nsIn c.K mainGlobals x = some (some (.ref a)) := by
  obtain ⟨p, hp, rfl⟩ := Option.map_eq_some_iff.mp h
  have q := List.find?_some hp
  rw [beq_iff_eq] at q
  obtain rfl := q
  exact beq_iff_eq.mp (List.all_eq_true.mp c.hG p (List.mem_of_find?_eq_some hp))
theorem Cx.globI (c : Cx) {x : Str} {i : Int} (h : globIOf x = some i) : ∃ t, nsIn c.K mainGlobals x = some (some (.int i t)) := by
  obtain ⟨p, hp, rfl⟩ := Option.map_eq_some_iff.mp h
  have q := List.find?_some hp
  rw [beq_iff_eq] at q
  obtain rfl := q
  have z := List.all_eq_true.mp c.hI p (List.mem_of_find?_eq_some hp)
  revert z
  cases nsIn c.K mainGlobals p.1 with
  | none => exact nofun
  | some o =>
    cases o with
    | none => exact nofun
    | some v =>
      cases v with
      | int i t => exact fun z => ⟨t, by rw [beq_iff_eq.mp z]⟩
      | _ => exact nofun
theorem Cx.globB (c : Cx) {x : Str} (h : globB.contains x = true) : nsIn c.K mainGlobals x = some none :=
  beq_iff_eq.mp (List.all_eq_true.mp c.hB x (List.contains_iff_mem.mp h))
theorem Cx.keep (c : Cx) {f : Addr} (h : fnHas f = true) : keepIn c.K (.ref f) = true := List.all_eq_true.mp c.hF f (List.contains_iff_mem.mp h)
theorem Cx.attr (c : Cx) {C : Addr} {x : Str} (h : attrHas C x = true) : attrOk c.K C x = true := by
  obtain ⟨p, hp, q⟩ := List.any_eq_true.mp h
  simp only [Bool.and_eq_true, beq_iff_eq] at q
  obtain ⟨rfl, rfl⟩ := q
  exact List.all_eq_true.mp c.hA p hp
theorem Cx.meth (c : Cx) {C f : Addr} {x : Str} (h : methOf C x = some f) : methOk c.K C x f = true := by
  obtain ⟨p, hp, rfl⟩ := Option.map_eq_some_iff.mp h
  have q := List.find?_some hp
  simp only [Bool.and_eq_true, beq_iff_eq] at q
  obtain ⟨rfl, rfl⟩ := q
  exact List.all_eq_true.mp c.hM p (List.mem_of_find?_eq_some hp)
theorem Cx.make (c : Cx) {C f : Addr} (h : makeOf C = some f) : makeOk c.K C f = true := by
  obtain ⟨p, hp, rfl⟩ := Option.map_eq_some_iff.mp h
  have q := List.find?_some hp
  rw [beq_iff_eq] at q
  obtain rfl := q
  exact List.all_eq_true.mp c.hN p (List.mem_of_find?_eq_some hp)
noncomputable abbrev Cx.M (c : Cx) : Model := model c.prog c.w
noncomputable def ReN (h : Heap) (fs : List (Str × V)) (m : Str → Option Value) : Prop := ∀ x, match fs.lookup x with
  | some X => ∃ v, m x = some v ∧ Re h X v
  | none => m x = none
theorem ReN.tk {h h' : Heap} (k : Tk h h') {fs m} (x : ReN h fs m) : ReN h' fs m := fun y => by
  have := x y
  revert this
  cases fs.lookup y with
  | none => exact id
  | some X => exact fun ⟨v, a, b⟩ => ⟨v, a, b.tk k⟩
noncomputable def fput : List (Str × V) → Str → V → List (Str × V)
  | [], x, X => [(x, X)]
  | (y, Y) :: r, x, X => if y = x then (y, X) :: r else (y, Y) :: fput r x X
theorem fput_lookup (x : Str) (X : V) (z : Str) (fs : List (Str × V)) : (fput fs x X).lookup z = if z = x then some X else fs.lookup z := by
  induction fs with
  | nil =>
    show List.lookup z [(x, X)] = _
    by_cases q : z = x
    · rw [if_pos q, q, List.lookup_cons_self]
    · rw [if_neg q, List.lookup_cons, beq_false_of_ne q]
  | cons p r ih =>
    obtain ⟨y, Y⟩ := p
    show List.lookup z (if y = x then (y, X) :: r else (y, Y) :: fput r x X) = _
    by_cases e : y = x
    · rw [if_pos e, e]
      by_cases q : z = x
      · rw [if_pos q, q, List.lookup_cons_self]
      · rw [if_neg q, List.lookup_cons, List.lookup_cons, beq_false_of_ne q]
    · rw [if_neg e, List.lookup_cons, List.lookup_cons, ih]
      cases hb : z == y with
      | true => exact (if_neg (fun w => e ((beq_iff_eq.mp hb).symm.trans w))).symm
      | false => rfl
theorem ReN.put {h : Heap} {fs m} (x : ReN h fs m) {name : Str} {X : V} {v : Value} (r : Re h X v) : ReN h (fput fs name X) (fun y => if y = name then some v else m y) := fun y => by
  rw [fput_lookup]
  by_cases q : y = name
  · rw [if_pos q]; exact ⟨v, if_pos q, r⟩
  · have := x y
    rw [if_neg q]
    revert this
    cases fs.lookup y with
    | none => exact fun e => (if_neg q).trans e
    | some Y => exact fun ⟨v, a, b⟩ => ⟨v, (if_neg q).trans a, b⟩
noncomputable abbrev Gd := Addr → Option Obj
noncomputable def OR (c : Cx) (h : Heap) (a : Addr) : AO → Prop
  | .list xs => ∃ vs n, h.get? a = some (listOf vs n) ∧ ReL h xs vs.toList
  | .dictE n => h.get? a = some { cls := .type "dict", data := .dict #[] n }
  | .dictI ep es => ∃ kvs, h.DictAt (intKind c.prog c.w) a kvs ep ∧ ReP h es kvs
  | .dictS es => ∃ kvs, h.DictOf (strKind c.prog c.w) a kvs ∧ ReP h es kvs
  | .dictT n => ∃ xs, h.DictOfH (tupleKind (intKind c.prog c.w)) a xs ∧ (∀ x ∈ xs, ∃ i t, x.2.2 = .int i t) ∧ xs.length ≤ n
  | .rng lo hi => ∃ t t' t'', h.get? a = some { cls := .type "range", data := .fields #[.int lo t, .int hi t', .int 1 t''] }
  | .inst C d fs => ∃ m, h.get? a = some (instObj C d) ∧ h.Ns1 d m ∧ ReN h fs m ∧ ∀ x, fs.lookup x ≠ none → attrHas C x = true
  | .own _ => ∃ o es n, h.get? a = some o ∧ o.data = .dict es n
  | .tab b => ∃ ps, h.get? a = some (tabObj ps) ∧ TriplesOk ps.toList ∧ (b = true → codeAmong lamPos ps.toList = none)
structure HS (c : Cx) (G : Gd) (H : AH) (s : Shared) : Prop where
  base : ∀ b o, c.B.get? b = some o → G b = some o
  prot : ∀ b o, G b = some o → s.heap.get? b = some o
  obj : ∀ a o, H a = some o → OR c s.heap a o
  disj : ∀ a, H a ≠ none → G a = none
  wf : ∀ a C d fs, H a = some (.inst C d fs) → H d = some (.own a)
  ns : ∀ a o, H a = some o → o.isD = true → a ≠ sysModules
theorem HS.keep {c : Cx} {G H s} (S : HS c G H s) : ∀ b o, c.B.get? b = some o → s.heap.get? b = some o := fun b o e => S.prot b o (S.base b o e)
theorem HS.X {c : Cx} {G H s} (S : HS c G H s) : c.K.In s.heap := c.X.keeps S.keep
theorem HS.T {c : Cx} {G H s} (S : HS c G H s) : TopRead c.p c.loose c.mg c.mb s.heap := c.T.keeps S.keep
theorem DictOf_get {prog w} {K : Type} [DecidableEq K] {knd : KeyKind prog w K} {h : Heap} {a : Addr} {kvs : List (K × Value)} (x : h.DictOf knd a kvs) : ∃ o, h.get? a = some o ∧ o.cls = .type "dict" := by
  refine zC5 fun _ hk => ?_
  obtain ⟨o, _, _, ho, hc, _⟩ := x
  refine hk ?_
  exact ⟨o, ho, hc.1⟩
theorem NT.of_cls {o : Obj} (h : o.cls ≠ .type "tuple") : NT o := fun e => absurd e h
theorem OR.get {c : Cx} {h : Heap} {a : Addr} : ∀ {o : AO}, OR c h a o → ∃ ob, h.get? a = some ob ∧ NT ob := by
  intro zz
  cases zz with
  | list _ =>
    rintro ⟨_, _, e, _⟩
    exact ⟨_, e, .of_cls (by simp)⟩
  | dictE _ =>
    intro e
    exact ⟨_, e, .of_cls (by simp)⟩
  | dictI _ _ =>
    rintro ⟨_, e, _⟩
    exact let ⟨o, a, b⟩ := DictOf_get e.dictOf; ⟨o, a, .of_cls (by rw [b]; simp)⟩
  | dictS _ =>
    rintro ⟨_, e, _⟩
    exact let ⟨o, a, b⟩ := DictOf_get e; ⟨o, a, .of_cls (by rw [b]; simp)⟩
  | dictT _ =>
    intro hz0
    refine zC5 fun _ hk => ?_
    obtain ⟨_, ⟨o, _, _, e, _, d, _⟩, _⟩ := hz0
    refine hk ?_
    exact ⟨o, e, fun _ _ _ q => by rw [d] at q; cases q⟩
  | rng _ _ =>
    rintro ⟨_, _, _, e⟩
    exact ⟨_, e, .of_cls (by simp)⟩
  | inst _ _ _ =>
    rintro ⟨_, e, _⟩
    exact ⟨_, e, .of_cls (by simp)⟩
  | own _ =>
    rintro ⟨o, es, n, e, b⟩
    exact ⟨o, e, fun _ i k q => by rw [b] at q; cases q⟩
  | tab _ =>
    rintro ⟨_, e, _⟩
    exact ⟨_, e, .of_cls (by simp)⟩
structure Ext (s s' : Shared) : Prop where
  tk : Tk s.heap s'.heap
  os : s'.os = s.os
  gens : s'.gens = s.gens
theorem Ext.refl (s : Shared) : Ext s s := ⟨Tk.refl _, rfl, rfl⟩
theorem Ext.trans {s s' s'' : Shared} (x : Ext s s') (y : Ext s' s'') : Ext s s'' := ⟨x.tk.trans y.tk, y.os.trans x.os, y.gens.trans x.gens⟩
theorem zH1 {h h' : Heap} {a : Addr} (k : Heap.SameBut a h h') {b : Addr} (ne : b ≠ a) {o : Obj} (e : h.get? b = some o) : h'.get? b = some o := (k.2 b ne).trans e
theorem tk_sameBut {h h' : Heap} {a : Addr} {oa : Obj} (k : Heap.SameBut a h h') (ha : h.get? a = some oa) (hc : NT oa) : Tk h h' := fun b o i n e c d => by
  by_cases q : b = a
  · subst q; rw [ha] at e; obtain rfl := Option.some.inj e; exact absurd d (hc c i n)
  · exact zH1 k q e
theorem DictOf_keep {prog w} {K : Type} [DecidableEq K] {knd : KeyKind prog w K} {h h' : Heap} {a : Addr} {kvs : List (K × Value)} (x : h.DictOf knd a kvs) (e : ∀ o, h.get? a = some o → h'.get? a = some o) : h'.DictOf knd a kvs := by
  refine zC5 fun _ hk => ?_
  obtain ⟨o, es, ep, ho, r⟩ := x
  refine hk ?_
  exact ⟨o, es, ep, e o ho, r⟩
theorem OR.keep {c : Cx} {h h' : Heap} (t : Tk h h') {a : Addr} {o : AO} (x : OR c h a o) (e : ∀ ob, h.get? a = some ob → h'.get? a = some ob)
    (ed : ∀ C d fs, o = .inst C d fs → ∀ ob, h.get? d = some ob → h'.get? d = some ob) : OR c h' a o := by
  cases o with
  | list xs => obtain ⟨vs, n, e1, r⟩ := x; exact ⟨vs, n, e _ e1, r.tk t⟩
  | dictE n => exact e _ x
  | dictI ep es => obtain ⟨kvs, ⟨o, es', e1, r1⟩, r⟩ := x; exact ⟨kvs, ⟨o, es', e _ e1, r1⟩, r.tk t⟩
  | dictS es => obtain ⟨kvs, e1, r⟩ := x; exact ⟨kvs, DictOf_keep e1 e, r.tk t⟩
  | dictT n => obtain ⟨xs, ⟨o, es, ep, e1, hc, hd, he, hk, hn⟩, r⟩ := x; exact ⟨xs, ⟨o, es, ep, e _ e1, hc, hd, he, fun y hy => let ⟨oo, its, m, a1, a2, a3, a4⟩ := hk y hy; ⟨oo, its, m, t _ _ _ _ a1 a2 a3, a2, a3, a4⟩, hn⟩, r⟩
  | rng lo hi => obtain ⟨t1, t2, t3, e1⟩ := x; exact ⟨t1, t2, t3, e _ e1⟩
  | inst C d fs => obtain ⟨m, e1, e2, r⟩ := x; exact ⟨m, e _ e1, e2.at (ed C d fs rfl), r.1.tk t, r.2⟩
  | own b => obtain ⟨ob, es, n, e1, r⟩ := x; exact ⟨ob, es, n, e _ e1, r⟩
  | tab b => obtain ⟨ps, e1, r⟩ := x; exact ⟨ps, e _ e1, r⟩
theorem HS.ext {c : Cx} {G H s s'} (S : HS c G H s) (k : ∀ b o, s.heap.get? b = some o → s'.heap.get? b = some o) : HS c G H s' where
  base := S.base
  prot := fun b o e => k b o (S.prot b o e)
  obj := fun a o e => (S.obj a o e).keep (Tk.of_keep k) (fun _ => k a _) (fun _ d _ _ _ => k d _)
  disj := S.disj
  wf := S.wf
  ns := S.ns
theorem HS.fresh {c : Cx} {G H s} (S : HS c G H s) {a : Addr} (e : s.heap.get? a = none) : H a = none ∧ G a = none := by
  constructor
  · cases q : H a with
    | none => rfl
    | some o => obtain ⟨ob, e', _⟩ := (S.obj a o q).get; rw [e] at e'; injection e'
  · cases q : G a with
    | none => rfl
    | some o => have := S.prot a o q; rw [e] at this; injection this
theorem zH6 (h : Heap) : h.get? h.objs.size = none := by
  cases q : h.get? h.objs.size with
  | none => rfl
  | some o => exact absurd (Heap.lt_size q) (Nat.lt_irrefl _)
theorem AH.set_self (H : AH) (a : Addr) (o : AO) : (H.set a o) a = some o := by simp [AH.set]
theorem AH.set_ne (H : AH) {a b : Addr} (o : AO) (h : b ≠ a) : (H.set a o) b = H b := by simp [AH.set, h]
theorem HS.alloc {c : Cx} {G H s} (S : HS c G H s) (ob : Obj) {o : AO} {tk} (hf : ob.isFreed = false) (ho : OR c (s.heap.push ob) s.heap.objs.size o) (hi : ∀ C d fs, o ≠ .inst C d fs) :
    HS c G (H.set s.heap.objs.size o) { s with heap := s.heap.push ob, toks := tk } where
  base := S.base
  prot := fun b o e => Heap.get?_push_of_some _ (S.prot b o e)
  obj := fun a x e => by
    by_cases q : a = s.heap.objs.size
    · subst q; rw [AH.set_self] at e; obtain rfl := Option.some.inj e; exact ho
    · rw [AH.set_ne _ _ q] at e
      exact (S.obj a x e).keep (Tk.of_keep fun b o e => Heap.get?_push_of_some _ e) (fun _ => Heap.get?_push_of_some _) (fun _ d _ _ _ => Heap.get?_push_of_some _)
  disj := fun a e => by
    by_cases q : a = s.heap.objs.size
    · subst q; exact (S.fresh (zH6 _)).2
    · rw [AH.set_ne _ _ q] at e; exact S.disj a e
  wf := fun a C d fs e => by
    by_cases q : a = s.heap.objs.size
    · subst q; rw [AH.set_self] at e; obtain rfl := Option.some.inj e; exact absurd rfl (hi C d fs)
    · rw [AH.set_ne _ _ q] at e
      have := S.wf a C d fs e
      rw [AH.set_ne]
      · exact this
      · intro z; rw [z, (S.fresh (zH6 _)).1] at this; injection this
  ns := fun a x e d => by
    by_cases q : a = s.heap.objs.size
    · subst q; exact Nat.ne_of_gt (Nat.lt_trans (by decide) S.T.g.lt)
    · rw [AH.set_ne _ _ q] at e; exact S.ns a x e d
theorem HS.upd {c : Cx} {G H s s'} (S : HS c G H s) {a : Addr} {o o' : AO} (hH : H a = some o) (k : Heap.SameBut a s.heap s'.heap) (ho : OR c s'.heap a o')
    (hi : ∀ C d fs, o ≠ .inst C d fs) (hw : ∀ b, o ≠ .own b) (hi' : ∀ C d fs, o' ≠ .inst C d fs) (hd : o'.isD = true → o.isD = true) : HS c G (H.set a o') s' ∧ Tk s.heap s'.heap := by
  obtain ⟨ob, e1, e2⟩ := (S.obj a o hH).get
  have t := tk_sameBut k e1 e2
  refine ⟨⟨S.base, fun b x e => ?_, fun b x e => ?_, fun b e => ?_, fun b C d fs e => ?_, fun b x e d => ?_⟩, t⟩
  · have : b ≠ a := fun q => by simp only [q, S.disj a (by rw [hH]; simp)] at e; injection e
    exact zH1 k this (S.prot b x e)
  · by_cases q : b = a
    · subst q; rw [AH.set_self] at e; obtain rfl := Option.some.inj e; exact ho
    · rw [AH.set_ne _ _ q] at e
      refine (S.obj b x e).keep t (fun _ => zH1 k q) (fun C d fs z ob => zH1 k fun z' => ?_)
      subst z z'
      have := S.wf b C d fs e
      rw [hH] at this; exact hw b (Option.some.inj this)
  · by_cases q : b = a
    · subst q; exact S.disj b (by rw [hH]; simp)
    · rw [AH.set_ne _ _ q] at e; exact S.disj b e
  · by_cases q : b = a
    · subst q; rw [AH.set_self] at e; obtain rfl := Option.some.inj e; exact absurd rfl (hi' C d fs)
    · rw [AH.set_ne _ _ q] at e
      have w := S.wf b C d fs e
      rw [AH.set_ne]
      · exact w
      · intro z; rw [z, hH] at w; exact hw b (Option.some.inj w)
  · by_cases q : b = a
    · subst q; rw [AH.set_self] at e; obtain rfl := Option.some.inj e; exact S.ns b _ hH (hd d)
    · rw [AH.set_ne _ _ q] at e; exact S.ns b x e d
theorem HS.updI {c : Cx} {G H s s'} (S : HS c G H s) {a C d : Addr} {fs fs' : List (Str × V)} (hH : H a = some (.inst C d fs)) (k : Heap.SameBut d s.heap s'.heap)
    {m : Str → Option Value} (hd : s'.heap.Ns1 d m) (r : ReN s'.heap fs' m) (hf : ∀ x, fs'.lookup x ≠ none → attrHas C x = true) : HS c G (H.set a (.inst C d fs')) s' ∧ Tk s.heap s'.heap := by
  have hw := S.wf _ _ _ _ hH
  obtain ⟨ob, e1, e2⟩ := (S.obj d _ hw).get
  have t := tk_sameBut k e1 e2
  have hda : a ≠ d := fun q => by rw [← q, hH] at hw; exact nomatch hw
  refine ⟨⟨S.base, fun b x e => ?_, fun b x e => ?_, fun b e => ?_, fun b C' d' fs'' e => ?_, fun b x e dd => ?_⟩, t⟩
  · have : b ≠ d := fun q => by simp only [q, S.disj d (by rw [hw]; simp)] at e; injection e
    exact zH1 k this (S.prot b x e)
  · by_cases q : b = a
    · refine zC5 fun _ hk => ?_
      subst q; rw [AH.set_self] at e; obtain rfl := Option.some.inj e
      obtain ⟨_, e3, _⟩ := S.obj b _ hH
      refine hk ?_
      exact ⟨m, zH1 k hda e3, hd, r, hf⟩
    · rw [AH.set_ne _ _ q] at e
      by_cases qd : b = d
      · cases qd; rw [hw] at e; obtain rfl := Option.some.inj e
        obtain ⟨o, es, n, z1, z2, _⟩ := hd.ns
        exact ⟨o, es, n, z1, z2⟩
      · refine (S.obj b x e).keep t (fun _ => zH1 k qd) (fun C' d' fs'' z ob => zH1 k fun z' => ?_)
        subst z z'
        have := S.wf b C' d' fs'' e
        rw [hw] at this; cases this; exact q rfl
  · by_cases q : b = a
    · subst q; exact S.disj b (by rw [hH]; simp)
    · rw [AH.set_ne _ _ q] at e; exact S.disj b e
  · by_cases q : b = a
    · subst q; rw [AH.set_self] at e; cases e
      rw [AH.set_ne _ _ (Ne.symm hda)]; exact hw
    · rw [AH.set_ne _ _ q] at e
      have w := S.wf b C' d' fs'' e
      rw [AH.set_ne]
      · exact w
      · intro z; simp only [z, hH] at w; exact nomatch w
  · by_cases q : b = a
    · subst q; rw [AH.set_self] at e; obtain rfl := Option.some.inj e; injection dd
    · rw [AH.set_ne _ _ q] at e; exact S.ns b x e dd
noncomputable def Room (A : Around) (d : Nat) : Prop := A.handled = none ∧ A.depth + 3 * d ≤ 900 ∧ A.units + 20 * d ≤ 9000
theorem Room.in1 {A : Around} {d : Nat} (r : Room A (d + 1)) : Room A.in1 d := by
  obtain ⟨h, a, b⟩ := r; exact ⟨h, by show A.depth + _ ≤ _; lia, by show A.units + 1 + _ ≤ _; lia⟩
theorem Room.deeper {A : Around} {d : Nat} (r : Room A (d + 1)) (env : Env) : Room (A.deeper env) d := by
  obtain ⟨h, a, b⟩ := r; exact ⟨h, by show A.depth + 1 + _ ≤ _; lia, by show A.units + 3 + _ ≤ _; lia⟩
theorem Room.le {A : Around} {d e : Nat} (r : Room A d) (h : e ≤ d) : Room A e := by
  obtain ⟨h', a, b⟩ := r; exact ⟨h', by lia, by lia⟩
theorem Room.depth {A : Around} {d : Nat} (r : Room A d) : A.depth < recursionLimit := by
  have : recursionLimit = 1000 := rfl
  obtain ⟨h', a, b⟩ := r; lia
theorem Room.units {A : Around} {d : Nat} (r : Room A d) : A.units < cLine := by
  have : cLine = 9900 := rfl
  obtain ⟨h', a, b⟩ := r; lia
section
noncomputable abbrev Wp (α : Type) := AH → (α → AH → Prop) → Prop
noncomputable abbrev Ls := List (Option V)
noncomputable def LR (h : Heap) (m : Str → Option Value) : List Str → Ls → Prop
  | [], l => l = []
  | x :: xs, l => ∃ o l', l = o :: l' ∧ (∀ X, o = some X → ∃ v, m x = some v ∧ Re h X v) ∧ LR h m xs l'
theorem LR.tk {h h' : Heap} {m} (k : Tk h h') : ∀ {nm : List Str} {l : Ls}, LR h m nm l → LR h' m nm l := by
  intro zz
  induction zz with
  | nil =>
    intro _ e
    exact e
  | cons _ _ ih =>
    rintro _ ⟨o, l', e, a, b⟩
    exact ⟨o, l', e, fun X q => let ⟨v, z, r⟩ := a X q; ⟨v, z, r.tk k⟩, ih b⟩
theorem LR.get {h : Heap} {m} : ∀ {nm : List Str} {l : Ls} {i : Nat} {x : Str} {X : V}, LR h m nm l → nm[i]? = some x → l[i]? = some (some X) → ∃ v, m x = some v ∧ Re h X v := by
  intro zz
  induction zz with
  | nil =>
    intro _ _ _ _ _ e _
    simp at e
  | cons _ _ ih =>
    intro _ zz2
    cases zz2 with
    | zero =>
      rintro _ X ⟨o, l', e, a, _⟩ q z
      obtain rfl := Option.some.inj q; subst e; exact a X (by simpa using z)
    | succ i =>
      intro _ _ hz2 q z
      refine zC5 fun _ hk => ?_
      obtain ⟨o, l', e, _, b⟩ := hz2
      refine hk ?_
      subst e; exact ih b (by simpa using q) (by simpa using z)
theorem LR.store {h : Heap} {m} {x : Str} {v : Value} {X : V} (r : Re h X v) : ∀ {nm : List Str} {l : Ls}, x ∉ nm → LR h m nm l → LR h (fun y => if y = x then some v else m y) nm l := by
  intro zz
  induction zz with
  | nil =>
    intro _ _ e
    exact e
  | cons y _ ih =>
    intro _ n hz2
    refine zC5 fun _ hk => ?_
    obtain ⟨o, l', e, a, b⟩ := hz2
    refine hk ?_
    exact ⟨o, l', e, fun Y q => by
      obtain ⟨u, z, r'⟩ := a Y q
      exact ⟨u, by show (if _ then _ else _) = _; rw [if_neg (fun w => n (by rw [w]; exact .head _))]; exact z, r'⟩, ih (fun w => n (.tail _ w)) b⟩
theorem LR.set {h : Heap} {m} {x : Str} {v : Value} {X : V} (r : Re h X v) : ∀ {nm : List Str} {l : Ls} {i : Nat}, nm.Nodup → nm[i]? = some x → LR h m nm l → LR h (fun y => if y = x then some v else m y) nm (l.set i (some X)) := by
  intro zz
  induction zz with
  | nil =>
    intro _ _ _ e _
    simp at e
  | cons y ys ih =>
    intro _ zz2
    cases zz2 with
    | zero =>
      rintro nd q ⟨o, l', e, a, b⟩
      obtain rfl := Option.some.inj q; subst e
      exact ⟨some X, l', rfl, fun Y w => by obtain rfl := Option.some.inj w; exact ⟨v, by show (if _ then _ else _) = _; rw [if_pos rfl], r⟩, LR.store r (List.nodup_cons.mp nd).1 b⟩
    | succ i =>
      rintro nd q ⟨o, l', e, a, b⟩
      subst e
      have q' : ys[i]? = some x := by simpa using q
      refine ⟨o, l'.set i (some X), rfl, fun Y w => ?_, ih (List.nodup_cons.mp nd).2 q' b⟩
      obtain ⟨u, z, r'⟩ := a Y w
      exact ⟨u, by show (if _ then _ else _) = _; rw [if_neg (fun w => (List.nodup_cons.mp nd).1 (by simp only [w]; exact List.mem_of_getElem? q'))]; exact z, r'⟩
structure Sm (c : Cx) (G : Gd) (L : Addr) (nm : List Str) (l : Ls) (H : AH) (s : Shared) : Prop where
  hs : HS c G H s
  gL : G L = none
  hL : H L = none
  fr : ∃ m, s.heap.Ns L m ∧ LR s.heap m nm l
section
variable {c : Cx} {G : Gd} {L : Addr} {nm : List Str} {l : Ls} {H : AH} {s s' : Shared}
theorem Sm.step (S : Sm c G L nm l H s) (k : ∀ b o, s.heap.get? b = some o → s'.heap.get? b = some o) : Sm c G L nm l H s' :=
  ⟨S.hs.ext k, S.gL, S.hL, let ⟨m, a, b⟩ := S.fr; ⟨m, a.keeps k, b.tk (Tk.of_keep k)⟩⟩
theorem Sm.tok (S : Sm c G L nm l H s) {t : Nat} : Sm c G L nm l H { s with toks := t } := S.step fun _ _ e => e
theorem Sm.lt (S : Sm c G L nm l H s) : L < s.heap.objs.size := by
  obtain ⟨_, a, _⟩ := S.fr
  exact a.lt
theorem Sm.ne_new (S : Sm c G L nm l H s) : L ≠ s.heap.objs.size := Nat.ne_of_lt S.lt
theorem Sm.alloc (S : Sm c G L nm l H s) (ob : Obj) {o : AO} {tk} (ho : OR c (s.heap.push ob) s.heap.objs.size o) (hf : autoParam (ob.isFreed = false) auR) (hi : autoParam (∀ C d fs, o ≠ .inst C d fs) auN) :
    Sm c G L nm l (H.set s.heap.objs.size o) { s with heap := s.heap.push ob, toks := tk } :=
  ⟨S.hs.alloc ob hf ho hi, S.gL, by rw [AH.set_ne _ _ S.ne_new]; exact S.hL, let ⟨m, a, b⟩ := S.fr; ⟨m, a.push ob, b.tk (Tk.of_keep fun b o e => Heap.get?_push_of_some _ e)⟩⟩
theorem Sm.push (S : Sm c G L nm l H s) (ob : Obj) {tk} : Sm c G L nm l H { s with heap := s.heap.push ob, toks := tk } := S.step fun _ _ e => Heap.get?_push_of_some _ e
theorem Sm.neL (S : Sm c G L nm l H s) {a : Addr} {o : AO} (e : H a = some o) : L ≠ a := fun q => by rw [← q, S.hL] at e; injection e
theorem Sm.upd (S : Sm c G L nm l H s) {a : Addr} {o o' : AO} (hH : H a = some o) (k : Heap.SameBut a s.heap s'.heap) (ho : OR c s'.heap a o')
    (hi : autoParam (∀ C d fs, o ≠ .inst C d fs) auN) (hw : autoParam (∀ b, o ≠ .own b) auN) (hi' : autoParam (∀ C d fs, o' ≠ .inst C d fs) auN) (hd : autoParam ((!o'.isD || o.isD) = true) auR) : Sm c G L nm l (H.set a o') s' ∧ Tk s.heap s'.heap := by
  refine zC5 fun _ hk => ?_
  obtain ⟨z, t⟩ := S.hs.upd hH k ho hi hw hi' (fun q => by rw [q] at hd; exact hd)
  obtain ⟨m, e, r⟩ := S.fr
  refine hk ?_
  exact ⟨⟨z, S.gL, by rw [AH.set_ne _ _ (S.neL hH)]; exact S.hL, ⟨m, e.sameBut k (S.neL hH), r.tk t⟩⟩, t⟩
theorem Sm.updI (S : Sm c G L nm l H s) {a C d : Addr} {fs fs' : List (Str × V)} (hH : H a = some (.inst C d fs)) (k : Heap.SameBut d s.heap s'.heap)
    {m : Str → Option Value} (hd : s'.heap.Ns1 d m) (r : ReN s'.heap fs' m) (hf : ∀ x, fs'.lookup x ≠ none → attrHas C x = true) : Sm c G L nm l (H.set a (.inst C d fs')) s' ∧ Tk s.heap s'.heap := by
  refine zC5 fun _ hk => ?_
  obtain ⟨z, t⟩ := S.hs.updI hH k hd r hf
  obtain ⟨m, e, r⟩ := S.fr
  refine hk ?_
  exact ⟨⟨z, S.gL, by rw [AH.set_ne _ _ (S.neL hH)]; exact S.hL, ⟨m, e.sameBut k (S.neL (S.hs.wf _ _ _ _ hH)), r.tk t⟩⟩, t⟩
end
inductive PV (c : Cx) (G : Gd) (L : Addr) (nm : List Str) (l : Ls) (s : Shared) (Q : V → AH → Prop) (v : Value) (s' : Shared) : Prop
  | of : ∀ x H', (Re s'.heap x v) → (Sm c G L nm l H' s') → (Ext s s') → (Q x H') → PV c G L nm l s Q v s'
inductive PB (c : Cx) (G : Gd) (L : Addr) (nm : List Str) (l : Ls) (s : Shared) (Q : Bool → AH → Prop) (b : Bool) (s' : Shared) : Prop
  | of : ∀ H', (Sm c G L nm l H' s') → (Ext s s') → (Q b H') → PB c G L nm l s Q b s'
inductive Fl where
  | next (l : Ls) | brk (l : Ls) | cont (l : Ls) | ret (x : V)
inductive PF (c : Cx) (G : Gd) (L : Addr) (nm : List Str) (s : Shared) (Q : Fl → AH → Prop) (f : Flow) (s' : Shared) : Prop
  | of : ∀ H', (Ext s s') → (match f with | .next => ∃ l', Sm c G L nm l' H' s' ∧ Q (.next l') H' | .brk => ∃ l', Sm c G L nm l' H' s' ∧ Q (.brk l') H' | .cont => ∃ l', Sm c G L nm l' H' s' ∧ Q (.cont l') H' | .ret v => ∃ x, Re s'.heap x v ∧ HS c G H' s' ∧ Q (.ret x) H') → PF c G L nm s Q f s'
noncomputable abbrev NoE : Value → Shared → Prop := fun _ _ => False
noncomputable def RE (c : Cx) (d : Nat) (qn : Str) (sc : Scope) (nm : List Str) (e : Expr) (w : Ls → Wp V) : Prop :=
  ∀ A, Room A d → ∀ L a cd G l H s Q, Sm c G L nm l H s → w l H Q → wpAny c.M A (eval e (envOf qn sc L a cd)) (PV c G L nm l s Q) NoE s
noncomputable def RT (c : Cx) (d : Nat) (qn : Str) (sc : Scope) (nm : List Str) (e : Expr) (w : Ls → Wp Bool) : Prop :=
  ∀ A, Room A d → ∀ L a cd G l H s Q, Sm c G L nm l H s → w l H Q → wpAny c.M A (isTrue e (envOf qn sc L a cd) (eval e (envOf qn sc L a cd))) (PB c G L nm l s Q) NoE s
noncomputable def RS (c : Cx) (d : Nat) (qn : Str) (sc : Scope) (nm : List Str) (st : Stmt) (w : Ls → Wp Fl) : Prop :=
  ∀ A, Room A d → ∀ L a cd G l H s Q, Sm c G L nm l H s → w l H Q → wpAny c.M A (exec st (envOf qn sc L a cd)) (PF c G L nm s Q) NoE s
noncomputable def RSs (c : Cx) (d : Nat) (qn : Str) (sc : Scope) (nm : List Str) (st : List Stmt) (w : Ls → Wp Fl) : Prop :=
  ∀ A, Room A d → ∀ L a cd G l H s Q, Sm c G L nm l H s → w l H Q → wpAny c.M A (execs st (envOf qn sc L a cd)) (PF c G L nm s Q) NoE s
noncomputable def REs (c : Cx) (d : Nat) (qn : Str) (sc : Scope) (nm : List Str) (es : List Expr) (w : Ls → Wp (List V)) : Prop :=
  ∀ A, Room A d → ∀ L a cd pos G l H s Q, Sm c G L nm l H s → w l H Q → wpAny c.M A (spliced (backTo pos (starEach es (envOf qn sc L a cd))))
    (fun vs s' => ∃ xs H', ReL s'.heap xs vs ∧ Sm c G L nm l H' s' ∧ Ext s s' ∧ Q xs H') NoE s
section
variable {c : Cx} {d : Nat} {qn : Str} {sc : Scope} {nm : List Str}
theorem PV.mk {G L l} {s s' : Shared} {Q : V → AH → Prop} {v : Value} {x : V} {H'} (r : Re s'.heap x v) (S : Sm c G L nm l H' s') (e : Ext s s') (q : Q x H') : PV c G L nm l s Q v s' := ⟨x, H', r, S, e, q⟩
theorem Ext.tok {s : Shared} {t : Nat} : Ext s { s with toks := t } := ⟨Tk.refl _, rfl, rfl⟩
theorem Ext.push {s : Shared} {o : Obj} {t : Nat} : Ext s { s with heap := s.heap.push o, toks := t } := ⟨Tk.of_keep fun _ _ e => Heap.get?_push_of_some _ e, rfl, rfl⟩
theorem PV.trans {G L l} {s s₁ : Shared} {Q : V → AH → Prop} (e : Ext s s₁) {v : Value} {s' : Shared} (p : PV c G L nm l s₁ Q v s') : PV c G L nm l s Q v s' := by
  obtain ⟨x, H', a, b, k, q⟩ := p
  exact ⟨x, H', a, b, e.trans k, q⟩
theorem PB.trans {G L l} {s s₁ : Shared} {Q : Bool → AH → Prop} (e : Ext s s₁) {v : Bool} {s' : Shared} (p : PB c G L nm l s₁ Q v s') : PB c G L nm l s Q v s' := by
  obtain ⟨H', b, k, q⟩ := p
  exact ⟨H', b, e.trans k, q⟩
theorem PF.trans {G L} {s s₁ : Shared} {Q : Fl → AH → Prop} (e : Ext s s₁) {v : Flow} {s' : Shared} (p : PF c G L nm s₁ Q v s') : PF c G L nm s Q v s' := by
  obtain ⟨H', k, q⟩ := p
  exact ⟨H', e.trans k, q⟩
noncomputable def zB1 (i : Nat) (l : Ls) : Wp V := fun H Q => match l[i]? with | some (some X) => Q X H | _ => False
theorem wLoc_inv {i : Nat} {l : Ls} {H : AH} {Q : V → AH → Prop} : zB1 i l H Q → ∃ X, l[i]? = some (some X) ∧ Q X H := by
  unfold zB1
  cases l[i]? with
  | none => exact False.elim
  | some o =>
    cases o with
    | none => exact False.elim
    | some X => exact fun w => ⟨X, rfl, w⟩
theorem zA3 {x : Str} {pos : Pos} (i : Nat) (hi : autoParam (nm[i]? = some x) auK) (hk : autoParam (sc.kind = .function) auK) (hx : autoParam (sc.names.lookup x = some .local) auK) (hd : autoParam ((x == ("__debug__" : Str)) = false) auK) :
    RE c d qn sc nm (.Name x pos) (zB1 i) := by
  intro A r L a cd G l H s Q S w
  refine zC5 fun _ hk' => ?_
  obtain ⟨m, hn, hl⟩ := S.fr
  obtain ⟨X, hX, w⟩ := wLoc_inv w
  obtain ⟨v, hv, hr⟩ := hl.get hi hX
  exact hk' (wpAny_Name (wpAny_loadName_local hk hx hn hv (PV.mk hr S (Ext.refl _) w)) hd)
noncomputable def zA5 (x : V) (_ : Ls) : Wp V := fun H Q => Q x H
theorem re_glob {x : Str} {pos : Pos} (a : Addr) (e : autoParam (globOf x = some a) auK) (hk : autoParam (sc.kind = .function) auK) (hx : autoParam (sc.names.lookup x = some .globalImplicit) auK) (hd : autoParam ((x == ("__debug__" : Str)) = false) auK) :
    RE c d qn sc nm (.Name x pos) (zA5 (.ref a)) := by
  intro A r L a' cd G l H s Q S w
  exact Name_function_global hk hx (loadGlobal_global (env := envOf qn sc L a' cd) S.hs.T.g (mg_of c.X c.T.g (c.glob e)) (PV.mk (x := .ref a) rfl S (Ext.refl _) w)) hd
theorem zF6 {x : Str} {pos : Pos} (i : Int) (e : autoParam (globIOf x = some i) auK) (hk : autoParam (sc.kind = .function) auK) (hx : autoParam (sc.names.lookup x = some .globalImplicit) auK) (hd : autoParam ((x == ("__debug__" : Str)) = false) auK) :
    RE c d qn sc nm (.Name x pos) (zA5 (.int i)) := by
  intro A r L a' cd G l H s Q S w
  obtain ⟨t, e⟩ := c.globI e
  exact Name_function_global hk hx (loadGlobal_global (env := envOf qn sc L a' cd) S.hs.T.g (mg_of c.X c.T.g e) (PV.mk (x := .int i) ⟨t, rfl⟩ S (Ext.refl _) w)) hd
theorem re_bi {x : Str} {pos : Pos} (i : String) (e : autoParam (globB.contains x = true) auK) (hv : autoParam (bootBuiltins x = some (.builtin i)) auK) (hn : autoParam (x ≠ "__name__") auD) (hk : autoParam (sc.kind = .function) auK) (hx : autoParam (sc.names.lookup x = some .globalImplicit) auK) (hd : autoParam ((x == ("__debug__" : Str)) = false) auK) :
    RE c d qn sc nm (.Name x pos) (zA5 (.bi i)) := by
  intro A r L a' cd G l H s Q S w
  exact Name_function_global hk hx (loadGlobal_builtin (env := envOf qn sc L a' cd) S.hs.T.g (mg_none_of c.X c.T.g (c.globB e)) S.hs.T.b ((S.hs.T.builtins x hn).trans hv) (PV.mk (x := .bi i) rfl S (Ext.refl _) w)) hd
theorem re_ty {x : Str} {pos : Pos} (i : String) (e : autoParam (globB.contains x = true) auK) (hv : autoParam (bootBuiltins x = some (.type i)) auK) (hn : autoParam (x ≠ "__name__") auD) (hk : autoParam (sc.kind = .function) auK) (hx : autoParam (sc.names.lookup x = some .globalImplicit) auK) (hd : autoParam ((x == ("__debug__" : Str)) = false) auK) :
    RE c d qn sc nm (.Name x pos) (zA5 (.ty i)) := by
  intro A r L a' cd G l H s Q S w
  exact Name_function_global hk hx (loadGlobal_builtin (env := envOf qn sc L a' cd) S.hs.T.g (mg_none_of c.X c.T.g (c.globB e)) S.hs.T.b ((S.hs.T.builtins x hn).trans hv) (PV.mk (x := .ty i) rfl S (Ext.refl _) w)) hd
theorem zB2 {i : Int} {k pos} : RE c d qn sc nm (.Constant (.int i) k pos) (zA5 (.int i)) := by
  intro A r L a' cd G l H s Q S w
  exact wpAny_Constant_int (PV.mk (x := .int i) ⟨_, rfl⟩ S.tok Ext.tok w)
theorem zC6 {x : Str} {k pos} : RE c d qn sc nm (.Constant (.str x) k pos) (zA5 (.str x)) := by
  intro A r L a' cd G l H s Q S w
  exact Constant_str (PV.mk (x := .str x) ⟨_, rfl⟩ S.tok Ext.tok w)
theorem re_bool {b : Bool} {k pos} : RE c d qn sc nm (.Constant (.bool b) k pos) (zA5 (.bool b)) := by
  intro A r L a' cd G l H s Q S w
  exact wpAny_pure (a := Value.bool b) (PV.mk (x := .bool b) rfl S (Ext.refl _) w)
noncomputable def kT2 (f : V → V → Wp V) (x : V) (Q : V → AH → Prop) (y : V) (H : AH) : Prop := f x y H Q
noncomputable def kT1 (w2 : Ls → Wp V) (f : V → V → Wp V) (l : Ls) (Q : V → AH → Prop) (x : V) (H : AH) : Prop := w2 l H (kT2 f x Q)
noncomputable def kO (f : V → Wp V) (Q : V → AH → Prop) (x : V) (H : AH) : Prop := f x H Q
noncomputable def RV2 (c : Cx) (d : Nat) (nm : List Str) (t : Value → Value → Sem Value) (w : V → V → Wp V) : Prop :=
  ∀ A, Room A d → ∀ L G l H s Q x y u v, Sm c G L nm l H s → Re s.heap x u → Re s.heap y v → w x y H Q → wpAny c.M A (t u v) (PV c G L nm l s Q) NoE s
noncomputable def RV1 (c : Cx) (d : Nat) (nm : List Str) (t : Value → Sem Value) (w : V → Wp V) : Prop :=
  ∀ A, Room A d → ∀ L G l H s Q x u, Sm c G L nm l H s → Re s.heap x u → w x H Q → wpAny c.M A (t u) (PV c G L nm l s Q) NoE s
noncomputable def zC3 (w1 w2 : Ls → Wp V) (f : V → V → Wp V) (l : Ls) : Wp V := fun H Q => w1 l H (kT1 w2 f l Q)
noncomputable def wOne (w1 : Ls → Wp V) (f : V → Wp V) (l : Ls) : Wp V := fun H Q => w1 l H (kO f Q)
theorem two_ {e1 e2 : Expr} {w1 w2 : Ls → Wp V} {f : V → V → Wp V} {t : Value → Value → Sem Value} (h1 : RE c d qn sc nm e1 w1) (h2 : RE c d qn sc nm e2 w2) (h : RV2 c d nm t f)
    {A} (r : Room A d) {L a cd G l H s Q} (S : Sm c G L nm l H s) (w : zC3 w1 w2 f l H Q) :
    wpAny c.M A (eval e1 (envOf qn sc L a cd)) (fun u s₁ => wpAny c.M A (eval e2 (envOf qn sc L a cd)) (fun v s₂ => wpAny c.M A (t u v) (PV c G L nm l s Q) NoE s₂) NoE s₁) NoE s :=
  wpAny_mono (h1 A r L a cd G l H s _ S w) (fun u s₁ ⟨x, H₁, r1, S1, k1, q1⟩ => wpAny_mono (h2 A r L a cd G l H₁ s₁ _ S1 q1) (fun v s₂ ⟨y, H₂, r2, S2, k2, q2⟩ =>
    wpAny_mono (h A r L G l H₂ s₂ Q x y u v S2 (r1.tk k2.tk) r2 q2) (fun _ _ p => p.trans (k1.trans k2)) fun _ _ z => z) fun _ _ z => z) fun _ _ z => z
theorem re_cmp {l op r pos} {w1 w2 : Ls → Wp V} {f : V → V → Wp V} (h1 : RE c d qn sc nm l w1) (h2 : RE c d qn sc nm r w2) (h : RV2 c d nm (compareOp op) f) (hm : autoParam (behindInMarks op r = false) auW) :
    RE c d qn sc nm (.Compare l [op] [r] pos) (zC3 w1 w2 f) := fun A rm L a cd G l H s Q S w => wpAny_Compare1 (two_ h1 h2 h rm S w) hm
theorem re_bin {l op r pos} {w1 w2 : Ls → Wp V} {f : V → V → Wp V} (h1 : RE c d qn sc nm l w1) (h2 : RE c d qn sc nm r w2) (h : RV2 c d nm (binaryOp op) f) :
    RE c d qn sc nm (.BinOp l op r pos) (zC3 w1 w2 f) := fun A rm L a cd G l H s Q S w => wpAny_BinOp (two_ h1 h2 h rm S w)
theorem zC2 {value slice pos} {w1 w2 : Ls → Wp V} {f : V → V → Wp V} (h1 : RE c d qn sc nm value w1) (h2 : RE c d qn sc nm slice w2) (h : RV2 c d nm (subscriptTail value slice) f) :
    RE c d qn sc nm (.Subscript value slice pos) (zC3 w1 w2 f) := fun A rm L a cd G l H s Q S w => Subscript_ (two_ h1 h2 h rm S w)
theorem zF3 {value attr pos} {w1 : Ls → Wp V} {f : V → Wp V} (h1 : RE c d qn sc nm value w1) (h : RV1 c d nm (fun o => getAttr o attr true) f)
    (he : autoParam (∀ env, eval (.Attribute value attr pos) env = (do let o ← eval value env; standAt pos.atName; let r ← holding [o] (getAttr o attr true); letTemporaryGo value o r; pure r)) auU) :
    RE c d qn sc nm (.Attribute value attr pos) (wOne w1 f) := fun A rm L a cd G l H s Q S w =>
  Attribute_any_ (wpAny_mono (h1 A rm L a cd G l H s _ S w) (fun u s₁ ⟨x, H₁, r1, S1, k1, q1⟩ => wpAny_mono (h A rm L G l H₁ s₁ Q x u S1 r1 q1) (fun _ _ p => p.trans k1) fun _ _ z => z) fun _ _ z => z) (he _)
end
end
section
mutual
noncomputable def toP : V → PyData
  | .int i => .int i
  | .str s => .str s
  | .tup xs => .tuple (toPs xs)
  | .bool b => .bool b
  | _ => .none
noncomputable def toPs : List V → List PyData
  | [] => []
  | x :: xs => toP x :: toPs xs
end
mutual
noncomputable def okV : Nat → V → Bool
  | _, .none => true
  | _, .int _ => true
  | _, .str s => PyData.strOk s
  | n + 1, .tup xs => okVs n xs
  | _, _ => false
noncomputable def okVs : Nat → List V → Bool
  | _, [] => true
  | n, x :: xs => okV n x && okVs n xs
end
theorem okS {n : Nat} {s : Str} : okV n (.str s) = PyData.strOk s := rfl
theorem okI {n : Nat} {i : Int} : okV n (.int i) = true := rfl
theorem okT {n : Nat} {xs : List V} : okV (n + 1) (.tup xs) = okVs n xs := rfl
theorem okN {n : Nat} : okVs n [] = true := rfl
theorem okC {n : Nat} {x : V} {xs : List V} : okVs n (x :: xs) = (okV n x && okVs n xs) := rfl
theorem tpI {i : Int} : toP (.int i) = .int i := rfl
theorem tpS {s : Str} : toP (.str s) = .str s := rfl
theorem tpT {xs : List V} : toP (.tup xs) = .tuple (toPs xs) := rfl
theorem tpN : toPs [] = [] := rfl
theorem tpC {x : V} {xs : List V} : toPs (x :: xs) = toP x :: toPs xs := rfl
theorem okV_tup0 (xs : List V) : okV 0 (.tup xs) = false := rfl
theorem ite_inv {α : Type} {c : Prop} [Decidable c] {x d : α} (e : (if c then some x else none) = some d) : c ∧ d = x := by
  by_cases k : c
  · rw [if_pos k] at e; exact ⟨k, (Option.some.inj e).symm⟩
  · rw [if_neg k] at e; exact noS e
mutual
theorem re_reads {h : Heap} : ∀ {x : V} {v : Value} {n : Nat}, Re h x v → okV n x = true → ∃ as, Reads h v (toP x) as
  | .none, v, _, e, _ => by rw [show v = _ from e]; exact ⟨_, Reads.none⟩
  | .int _, v, _, ⟨t, e⟩, _ => by rw [e]; exact ⟨_, Reads.int _ _⟩
  | .str _, v, _, ⟨t, e⟩, _ => by rw [e]; exact ⟨_, Reads.str _ _⟩
  | .tup xs, v, 0, _, k => noB k
  | .tup xs, v, n + 1, ⟨a, its, e, ⟨o, ho, hc, m, hd⟩, l⟩, k => by
    obtain ⟨as, r⟩ := reL_reads l (n := n) k
    rw [e]; exact ⟨as, reads_tuple_at ho hc hd r⟩
  | .bool _, _, n, _, k => noB k
  | .ref _, _, n, _, k => noB k
  | .ty _, _, n, _, k => noB k
  | .bi _, _, n, _, k => noB k
theorem reL_reads {h : Heap} : ∀ {xs : List V} {vs : List Value} {n : Nat}, ReL h xs vs → okVs n xs = true → ∃ as, ReadsAll h vs (toPs xs) as
  | [], vs, _, e, _ => by rw [show vs = _ from e]; exact ⟨_, ReadsAll.nil⟩
  | x :: xs, _, n, ⟨v, vs', e, a, b⟩, k => by
    rw [okC, Bool.and_eq_true] at k
    obtain ⟨as, r⟩ := re_reads a k.1
    obtain ⟨bs, q⟩ := reL_reads b k.2
    rw [e]; exact ⟨_, ReadsAll.cons r q⟩
end
mutual
theorem ok_lay : ∀ {n : Nat} {x : V}, okV n x = true → (toP x).canLay0 = true ∧ (toP x).depth ≤ n
  | _, .none, _ => by show PyData.none.canLay0 = true ∧ PyData.none.depth ≤ _; simp [PyData.canLay0, PyData.depth]
  | _, .int _, _ => by simp [tpI, PyData.canLay0, PyData.depth]
  | _, .str _, k => by rw [okS] at k; simp [tpS, PyData.canLay0, PyData.depth, k]
  | 0, .tup xs, k => noB k
  | n + 1, .tup xs, k => by
    have q := oks_lay (n := n) (xs := xs) k
    have q2 := q.2
    simp only [tpT, PyData.canLay0, PyData.depth, q.1, true_and]
    lia
  | n, .bool _, k => noB k
  | n, .ref _, k => noB k
  | n, .ty _, k => noB k
  | n, .bi _, k => noB k
theorem oks_lay : ∀ {n : Nat} {xs : List V}, okVs n xs = true → PyData.canLayAll0 (toPs xs) = true ∧ PyData.depthAll (toPs xs) ≤ n
  | _, [], _ => by simp [tpN, PyData.canLayAll0, PyData.depthAll]
  | n, x :: xs, k => by
    rw [okC, Bool.and_eq_true] at k
    have h1 := ok_lay k.1
    have h2 := oks_lay k.2
    simp only [tpC, PyData.canLayAll0, PyData.depthAll, h1.1, h2.1, Bool.and_self, true_and]
    have a1 := h1.2
    have a2 := h2.2
    lia
end
noncomputable def asP (H : AH) : V → Option PyData
  | .ref a => match H a with
    | some (.list xs) => if okVs 6 xs then some (.list (toPs xs)) else none
    | _ => none
  | x => if okV 6 x then some (toP x) else none
theorem asS {H : AH} {s : Str} : asP H (.str s) = if PyData.strOk s then some (.str s) else none := rfl
theorem asI {H : AH} {i : Int} : asP H (.int i) = some (.int i) := rfl
theorem asT {H : AH} {xs : List V} : asP H (.tup xs) = if okVs 5 xs then some (.tuple (toPs xs)) else none := rfl
theorem asL {H : AH} {a : Addr} {xs : List V} (h : H a = some (.list xs)) : asP H (.ref a) = if okVs 6 xs then some (.list (toPs xs)) else none := by
  unfold asP; dsimp only; rw [h]
theorem asP_inv {H : AH} {x : V} {d : PyData} : asP H x = some d → (∃ a xs, x = .ref a ∧ H a = some (.list xs) ∧ okVs 6 xs = true ∧ d = .list (toPs xs)) ∨ (okV 6 x = true ∧ d = toP x) := by
  cases x with
  | ref a =>
    unfold asP
    dsimp only
    cases ha : H a with
    | none => exact noS
    | some o =>
      cases o with
      | list xs => exact fun e => .inl ⟨a, xs, rfl, ha, ite_inv e⟩
      | _ => exact noS
  | none => exact fun e => .inr (ite_inv e)
  | bool _ => exact fun e => .inr (ite_inv e)
  | int _ => exact fun e => .inr (ite_inv e)
  | str _ => exact fun e => .inr (ite_inv e)
  | tup _ => exact fun e => .inr (ite_inv e)
  | ty _ => exact fun e => .inr (ite_inv e)
  | bi _ => exact fun e => .inr (ite_inv e)
theorem asP_reads {c : Cx} {G H s} (S : HS c G H s) {x : V} {v : Value} {d : PyData} (r : Re s.heap x v) (e : asP H x = some d) : ∃ as, Reads s.heap v d as ∧ shaped d = true := by
  refine zC5 fun _ hk => ?_
  rcases asP_inv e with ⟨a, xs, rfl, hx, k, rfl⟩ | ⟨k, rfl⟩
  · obtain rfl : v = .ref a := r
    obtain ⟨vs, n, g, l⟩ := S.obj a _ hx
    obtain ⟨as, q⟩ := reL_reads l k
    have ll := oks_lay k
    refine hk ⟨_, reads_list_at g rfl rfl q, ?_⟩
    unfold shaped
    simp only [PyData.canLay0, PyData.depth, ll.1, Bool.true_and]
    exact decide_eq_true (by lia)
  · obtain ⟨as, q⟩ := re_reads r k
    have l := ok_lay k
    refine hk ⟨as, q, ?_⟩
    unfold shaped
    simp only [l.1, Bool.true_and]; exact decide_eq_true (Nat.le_trans l.2 (by decide))
section
variable {c : Cx} {d : Nat} {nm : List Str}
noncomputable def wEq (x y : V) : Wp V := fun H Q => match asP H x, asP H y with | some p, some q => Q (.bool (PyData.eqv p q)) H | _, _ => False
noncomputable def wNe (x y : V) : Wp V := fun H Q => match asP H x, asP H y with | some p, some q => Q (.bool (!PyData.eqv p q)) H | _, _ => False
theorem wEq_inv {x y : V} {H : AH} {Q : V → AH → Prop} (w : wEq x y H Q) : ∃ p q, asP H x = some p ∧ asP H y = some q ∧ Q (.bool (PyData.eqv p q)) H := by
  unfold wEq at w
  generalize asP H x = a at w ⊢
  generalize asP H y = b at w ⊢
  cases a <;> cases b <;> first | exact ⟨_, _, rfl, rfl, w⟩ | exact False.elim w
theorem wNe_inv {x y : V} {H : AH} {Q : V → AH → Prop} (w : wNe x y H Q) : ∃ p q, asP H x = some p ∧ asP H y = some q ∧ Q (.bool (!PyData.eqv p q)) H := by
  unfold wNe at w
  generalize asP H x = a at w ⊢
  generalize asP H y = b at w ⊢
  cases a <;> cases b <;> first | exact ⟨_, _, rfl, rfl, w⟩ | exact False.elim w
theorem Room.eq64 {A : Around} {d : Nat} (r : Room A d) : A.units + 64 < cLine := by
  have : cLine = 9900 := rfl
  obtain ⟨_, _, b⟩ := r; lia
theorem zE4 : RV2 c d nm (compareOp .Eq) wEq := by
  intro A rm L G l H s Q x y u v S rx ry w
  refine zC5 fun _ hk => ?_
  obtain ⟨p, q, hp, hq, w⟩ := wEq_inv w
  obtain ⟨as, ra, sa⟩ := asP_reads S.hs rx hp
  obtain ⟨bs, rb, sb⟩ := asP_reads S.hs ry hq
  refine hk ?_
  exact eq_dataH ra rb sa sb rm.eq64 (PV.mk (x := .bool _) rfl S (Ext.refl _) w)
theorem rv_ne : RV2 c d nm (compareOp .NotEq) wNe := by
  intro A rm L G l H s Q x y u v S rx ry w
  refine zC5 fun _ hk => ?_
  obtain ⟨p, q, hp, hq, w⟩ := wNe_inv w
  obtain ⟨as, ra, sa⟩ := asP_reads S.hs rx hp
  obtain ⟨bs, rb, sb⟩ := asP_reads S.hs ry hq
  refine hk ?_
  exact ne_dataH ra rb sa sb rm.eq64 (PV.mk (x := .bool _) rfl S (Ext.refl _) w)
noncomputable def wInt (f : Int → Int → V) (x y : V) : Wp V := fun H Q => match x, y with | .int i, .int j => Q (f i j) H | _, _ => False
theorem wInt_i {f : Int → Int → V} {i j : Int} {H : AH} {Q : V → AH → Prop} : wInt f (.int i) (.int j) H Q = Q (f i j) H := rfl
theorem wInt_inv {f : Int → Int → V} {x y : V} {H : AH} {Q : V → AH → Prop} (w : wInt f x y H Q) : ∃ i j, x = .int i ∧ y = .int j ∧ Q (f i j) H := by
  cases x <;> try exact False.elim w
  cases y <;> first | exact ⟨_, _, rfl, rfl, w⟩ | exact False.elim w
theorem rv_lt : RV2 c d nm (compareOp .Lt) (wInt fun i j => .bool (decide (i < j))) := by
  intro A rm L G l H s Q x y u v S rx ry w
  obtain ⟨i, j, rfl, rfl, w⟩ := wInt_inv w
  obtain ⟨t, rfl⟩ := rx; obtain ⟨t', rfl⟩ := ry
  exact PyProof.Rows.lt_int (PV.mk (x := .bool _) rfl S (Ext.refl _) w)
theorem rv_le : RV2 c d nm (compareOp .LtE) (wInt fun i j => .bool (decide (i ≤ j))) := by
  intro A rm L G l H s Q x y u v S rx ry w
  obtain ⟨i, j, rfl, rfl, w⟩ := wInt_inv w
  obtain ⟨t, rfl⟩ := rx; obtain ⟨t', rfl⟩ := ry
  exact PyProof.Rows.le_int (PV.mk (x := .bool _) rfl S (Ext.refl _) w)
theorem rv_gt : RV2 c d nm (compareOp .Gt) (wInt fun i j => .bool (decide (j < i))) := by
  intro A rm L G l H s Q x y u v S rx ry w
  obtain ⟨i, j, rfl, rfl, w⟩ := wInt_inv w
  obtain ⟨t, rfl⟩ := rx; obtain ⟨t', rfl⟩ := ry
  exact PyProof.Rows.gt_int (PV.mk (x := .bool _) rfl S (Ext.refl _) w)
theorem rv_ge : RV2 c d nm (compareOp .GtE) (wInt fun i j => .bool (decide (j ≤ i))) := by
  intro A rm L G l H s Q x y u v S rx ry w
  obtain ⟨i, j, rfl, rfl, w⟩ := wInt_inv w
  obtain ⟨t, rfl⟩ := rx; obtain ⟨t', rfl⟩ := ry
  exact PyProof.Rows.ge_int (PV.mk (x := .bool _) rfl S (Ext.refl _) w)
noncomputable def wMod (x y : V) : Wp V := fun H Q => match x, y with | .int i, .int j => j ≠ 0 ∧ Q (.int (i.fmod j)) H | _, _ => False
noncomputable def wDiv (x y : V) : Wp V := fun H Q => match x, y with | .int i, .int j => (j ≠ 0 ∧ j.natAbs < 1073741824) ∧ Q (.int (i.fdiv j)) H | _, _ => False
theorem wMod_inv {x y : V} {H : AH} {Q : V → AH → Prop} (w : wMod x y H Q) : ∃ i j, x = .int i ∧ y = .int j ∧ j ≠ 0 ∧ Q (.int (i.fmod j)) H := by
  cases x <;> try exact False.elim w
  cases y <;> first | exact ⟨_, _, rfl, rfl, w⟩ | exact False.elim w
theorem wDiv_inv {x y : V} {H : AH} {Q : V → AH → Prop} (w : wDiv x y H Q) : ∃ i j, x = .int i ∧ y = .int j ∧ (j ≠ 0 ∧ j.natAbs < 1073741824) ∧ Q (.int (i.fdiv j)) H := by
  cases x <;> try exact False.elim w
  cases y <;> first | exact ⟨_, _, rfl, rfl, w⟩ | exact False.elim w
theorem rv_mod : RV2 c d nm (binaryOp .Mod) wMod := by
  intro A rm L G l H s Q x y u v S rx ry w
  obtain ⟨i, j, rfl, rfl, w⟩ := wMod_inv w
  obtain ⟨t, rfl⟩ := rx; obtain ⟨t', rfl⟩ := ry
  exact PyProof.Rows.mod_int w.1 (PV.mk (x := .int _) ⟨_, rfl⟩ S.tok Ext.tok w.2)
theorem rv_div : RV2 c d nm (binaryOp .FloorDiv) wDiv := by
  intro A rm L G l H s Q x y u v S rx ry w
  obtain ⟨i, j, rfl, rfl, w⟩ := wDiv_inv w
  obtain ⟨t, rfl⟩ := rx; obtain ⟨t', rfl⟩ := ry
  exact PyProof.Rows.floordiv_int (hp := .inl (PyProof.noPylong_small w.1.2)) w.1.1 (PV.mk (x := .int _) ⟨_, rfl⟩ S.tok Ext.tok w.2)
noncomputable def wNeg (x : V) : Wp V := fun H Q => match x with | .int i => Q (.int (-i)) H | _ => False
theorem wNeg_i {i : Int} {H : AH} {Q : V → AH → Prop} : wNeg (.int i) H Q = Q (.int (-i)) H := rfl
theorem rv_neg : RV1 c d nm (unaryOp .USub) wNeg := by
  intro A rm L G l H s Q x u S rx w
  refine zC5 fun _ hk => ?_
  cases x <;> try exact False.elim w
  obtain ⟨t, rfl⟩ := rx
  refine hk ?_
  exact PyProof.Rows.neg_int (PV.mk (x := .int _) ⟨_, rfl⟩ S.tok Ext.tok w)
noncomputable def wNot (x : V) : Wp V := fun H Q => match x with | .bool b => Q (.bool (!b)) H | _ => False
theorem wNot_b {b : Bool} {H : AH} {Q : V → AH → Prop} : wNot (.bool b) H Q = Q (.bool (!b)) H := rfl
theorem rv_not : RV1 c d nm (unaryOp .Not) wNot := by
  intro A rm L G l H s Q x u S rx w
  cases x <;> try exact False.elim w
  rw [show u = _ from rx]
  exact not_of (wpAny_truthy_bool (PV.mk (x := .bool _) rfl S (Ext.refl _) w))
noncomputable def wAdd (x y : V) : Wp V := fun H Q => match x, y with
  | .int i, .int j => Q (.int (i + j)) H
  | .ref a, .ref b => match H a, H b with
    | some (.list xs), some (.list ys) => xs.length + ys.length ≤ 1000000 ∧ ∀ n, H n = none → Q (.ref n) (H.set n (.list (xs ++ ys)))
    | _, _ => False
  | _, _ => False
theorem line_big {n : Nat} (h : n ≤ 1000000) : n ≤ sizeLine := by simp only [sizeLine_eq]; lia
theorem ao_list {H : AH} {a : Addr} {F : List V → Prop} (q : match H a with | some (.list ys) => F ys | _ => False) : ∃ ys, H a = some (.list ys) ∧ F ys := by
  generalize H a = o at q ⊢
  cases o with
  | none => exact False.elim q
  | some o => cases o <;> first | exact ⟨_, rfl, q⟩ | exact False.elim q
theorem ao_list2 {H : AH} {a b : Addr} {F : List V → List V → Prop} (q : match H a, H b with | some (.list ys), some (.list zs) => F ys zs | _, _ => False) : ∃ ys zs, H a = some (.list ys) ∧ H b = some (.list zs) ∧ F ys zs := by
  generalize H a = o at q ⊢
  generalize H b = p at q ⊢
  cases o with
  | none => exact False.elim q
  | some o =>
    cases o <;> try exact False.elim q
    cases p with
    | none => exact False.elim q
    | some p => cases p <;> first | exact ⟨_, _, rfl, rfl, q⟩ | exact False.elim q
theorem ao_dict {H : AH} {a : Addr} {F : Nat → List (Int × V) → Prop} {E : Nat → Prop} (q : match H a with | some (.dictI ep es) => F ep es | some (.dictE ep) => E ep | _ => False) : (∃ ep es, H a = some (.dictI ep es) ∧ F ep es) ∨ ∃ ep, H a = some (.dictE ep) ∧ E ep := by
  generalize H a = o at q ⊢
  cases o with
  | none => exact False.elim q
  | some o => cases o <;> first | exact .inl ⟨_, _, rfl, q⟩ | exact .inr ⟨_, rfl, q⟩ | exact False.elim q
theorem ao_dictS {H : AH} {a : Addr} {F : List (Str × V) → Prop} {E : Nat → Prop} (q : match H a with | some (.dictS es) => F es | some (.dictE ep) => E ep | _ => False) : (∃ es, H a = some (.dictS es) ∧ F es) ∨ ∃ ep, H a = some (.dictE ep) ∧ E ep := by
  generalize H a = o at q ⊢
  cases o with
  | none => exact False.elim q
  | some o => cases o <;> first | exact .inl ⟨_, rfl, q⟩ | exact .inr ⟨_, rfl, q⟩ | exact False.elim q
theorem ao_dictT {H : AH} {a : Addr} {F E : Nat → Prop} (q : match H a with | some (.dictT n) => F n | some (.dictE ep) => E ep | _ => False) : (∃ n, H a = some (.dictT n) ∧ F n) ∨ ∃ ep, H a = some (.dictE ep) ∧ E ep := by
  generalize H a = o at q ⊢
  cases o with
  | none => exact False.elim q
  | some o => cases o <;> first | exact .inl ⟨_, rfl, q⟩ | exact .inr ⟨_, rfl, q⟩ | exact False.elim q
theorem ao_inst {H : AH} {a : Addr} {F : Addr → Addr → List (Str × V) → Prop} (q : match H a with | some (.inst C dd fs) => F C dd fs | _ => False) : ∃ C dd fs, H a = some (.inst C dd fs) ∧ F C dd fs := by
  generalize H a = o at q ⊢
  cases o with
  | none => exact False.elim q
  | some o => cases o <;> first | exact ⟨_, _, _, rfl, q⟩ | exact False.elim q
set_option tactic.hygienic true in
theorem rv_add : RV2 c d nm (binaryOp .Add) wAdd := by
  intro A rm L G l H s Q x y u v S rx ry w
  cases x <;> try exact False.elim w
  · cases y <;> try exact False.elim w
    obtain ⟨t, rfl⟩ := rx; obtain ⟨t', rfl⟩ := ry
    exact PyProof.Rows.add_int (PV.mk (x := .int _) ⟨_, rfl⟩ S.tok Ext.tok w)
  · cases y <;> try exact False.elim w
    rename_i a b
    rw [show u = _ from rx, show v = _ from ry]
    refine zC5 fun _ hk => ?_
    obtain ⟨xs, ys, ha, hb, w1, w2⟩ := ao_list2 (F := fun xs ys => xs.length + ys.length ≤ 1000000 ∧ ∀ n, H n = none → Q (.ref n) (H.set n (.list (xs ++ ys)))) w
    obtain ⟨vs, n, g, r⟩ := S.hs.obj a _ ha
    obtain ⟨us, k, g', r'⟩ := S.hs.obj b _ hb
    have hz := line_big w1
    have e1 := r.length; have e2 := r'.length
    simp only [Array.length_toList] at e1 e2
    refine hk ?_
    refine PySem.P.add_list (items := vs) (items2 := us) g g' ?_ (by lia)
    refine PV.mk (x := .ref s.heap.objs.size) (H' := H.set s.heap.objs.size (.list (xs ++ ys))) rfl ?_ Ext.push (w2 _ (S.hs.fresh (zH6 _)).1)
    refine S.alloc (listOf (vs ++ us) 0) ⟨vs ++ us, 0, Heap.get?_push_size _ rfl, ?_⟩
    rw [Array.toList_append]
    exact (r.append r').tk (Tk.of_keep fun _ _ e => Heap.get?_push_of_some _ e)
end
end
section
noncomputable def look {K : Type} [DecidableEq K] (es : List (K × V)) (k : K) : Option V := (es.find? fun p => decide (p.1 = k)).map (·.2)
theorem ReP.look {K : Type} [DecidableEq K] {h : Heap} (k : K) : ∀ {es : List (K × V)} {kvs : List (K × Value)}, ReP h es kvs →
    match Mine.look es k with | some X => ∃ v, valueAt kvs k = some v ∧ Re h X v | none => valueAt kvs k = none
  | [], _, e => by rw [show _ = [] from e]; rfl
  | (k', X) :: es, _, ⟨v, vs', e, r, l⟩ => by
    have ih := ReP.look k l
    subst e
    delta Mine.look valueAt at *
    simp only [List.find?_cons, List.find?_cons]
    by_cases q : k' = k
    · simp only [q, decide_true, Option.map_some]; exact ⟨v, rfl, r⟩
    · simp only [q, decide_false]; exact ih
theorem ReP.look_some {K : Type} [DecidableEq K] {h : Heap} {k : K} {es : List (K × V)} {kvs : List (K × Value)} {X : V} (r : ReP h es kvs) (e : Mine.look es k = some X) : ∃ v, valueAt kvs k = some v ∧ Re h X v := by
  have := r.look k; rw [e] at this; exact this
theorem ReP.look_none {K : Type} [DecidableEq K] {h : Heap} {k : K} {es : List (K × V)} {kvs : List (K × Value)} (r : ReP h es kvs) (e : Mine.look es k = none) : valueAt kvs k = none := by
  have := r.look k; rw [e] at this; exact this
theorem ReP.look_isSome {K : Type} [DecidableEq K] {h : Heap} {k : K} {es : List (K × V)} {kvs : List (K × Value)} (r : ReP h es kvs) : (valueAt kvs k).isSome = (Mine.look es k).isSome := by
  cases q : Mine.look es k with
  | none =>
    have e := r.look_none q
    simp [e]
  | some X =>
    obtain ⟨v, e, _⟩ := r.look_some q
    simp [e]
noncomputable def dput {K : Type} [DecidableEq K] (es : List (K × V)) (k : K) (X : V) : List (K × V) :=
  if es.any (fun p => decide (p.1 = k)) then es.map (fun p => if p.1 = k then (p.1, X) else p) else es ++ [(k, X)]
theorem ReP.append {K : Type} {h : Heap} : ∀ {xs ys : List (K × V)} {vs us}, ReP h xs vs → ReP h ys us → ReP h (xs ++ ys) (vs ++ us) := by
  intro zz
  induction zz with
  | nil =>
    intro _ _ _ e q
    rw [show _ = [] from e]; exact q
  | cons _ _ ih =>
    intro _ _ _ hz3 q
    refine zC5 fun _ hk => ?_
    obtain ⟨v, vs', e, a, b⟩ := hz3
    refine hk ?_
    exact ⟨v, vs' ++ _, by rw [e]; rfl, a, ih b q⟩
theorem ReP.any {K : Type} [DecidableEq K] {h : Heap} (k : K) : ∀ {es : List (K × V)} {kvs : List (K × Value)}, ReP h es kvs → kvs.any (fun kv => decide (kv.1 = k)) = es.any (fun p => decide (p.1 = k)) := by
  intro zz
  induction zz with
  | nil =>
    intro _ e
    rw [show _ = [] from e]; rfl
  | cons _ _ ih =>
    intro _ hz1
    refine zC5 fun _ hk => ?_
    obtain ⟨v, vs', e, r, l⟩ := hz1
    refine hk ?_
    simp only [e, List.any_cons, List.any_cons, ih l]
theorem ReP.map {K : Type} [DecidableEq K] {h : Heap} {k : K} {X : V} {v : Value} (r : Re h X v) : ∀ {es : List (K × V)} {kvs : List (K × Value)}, ReP h es kvs →
    ReP h (es.map fun p => if p.1 = k then (p.1, X) else p) (kvs.map fun kv => if kv.1 = k then (kv.1, v) else kv)
  | [], _, e => by rw [show _ = [] from e]; rfl
  | (k', Y) :: es, _, ⟨u, vs', e, r', l⟩ => by
    rw [e, List.map_cons, List.map_cons]
    by_cases q : k' = k
    · simp only [q, if_true]; exact ⟨v, _, rfl, r, ReP.map r l⟩
    · simp only [q, if_false]; exact ⟨u, _, rfl, r', ReP.map r l⟩
theorem ReP.put {K : Type} [DecidableEq K] {h : Heap} {k : K} {X : V} {v : Value} {es : List (K × V)} {kvs : List (K × Value)} (l : ReP h es kvs) (r : Re h X v) : ReP h (dput es k X) (stored kvs k v) := by
  unfold dput stored
  rw [l.any k]
  split
  · exact ReP.map r l
  · exact l.append ⟨v, [], rfl, r, rfl⟩
section
variable {c : Cx} {d : Nat} {qn : Str} {sc : Scope} {nm : List Str}
noncomputable def zD5 (x y : V) : Wp V := fun H Q => match x, y with
  | .tup xs, .int i => (0 ≤ i ∧ i < 1000000) ∧ (match xs[i.toNat]? with | some X => Q X H | none => False)
  | .ref a, .int i => match H a with
    | some (.list xs) => (0 ≤ i ∧ i < 1000000) ∧ (match xs[i.toNat]? with | some X => Q X H | none => False)
    | some (.dictI ep es) => (match look es i with | some X => Q X H | none => False)
    | _ => False
  | _, _ => False
theorem seqIndex_nat {i : Int} {n : Nat} (h : 0 ≤ i) (hn : i.toNat < n) : seqIndex? i n = some i.toNat := by
  have h1 : ¬ i < 0 := by lia
  have h2 : i < n := by lia
  simp [seqIndex?, h1, h, h2]
inductive SubI (H : AH) (Q : V → AH → Prop) : V → V → Prop
  | tup : ∀ xs i X, 0 ≤ i → i < 1000000 → xs[i.toNat]? = some X → Q X H → SubI H Q (.tup xs) (.int i)
  | list : ∀ a i xs X, H a = some (.list xs) → 0 ≤ i → i < 1000000 → xs[i.toNat]? = some X → Q X H → SubI H Q (.ref a) (.int i)
  | dict : ∀ a i ep es X, H a = some (.dictI ep es) → look es i = some X → Q X H → SubI H Q (.ref a) (.int i)
theorem opt_inv {o : Option V} {F : V → Prop} (w : match o with | some X => F X | none => False) : ∃ X, o = some X ∧ F X := by
  cases o with
  | none => exact False.elim w
  | some X => exact ⟨X, rfl, w⟩
set_option tactic.hygienic true in
theorem sub_inv {x y : V} {H : AH} {Q : V → AH → Prop} (w : zD5 x y H Q) : SubI H Q x y := by
  cases x <;> try exact False.elim w
  · cases y <;> try exact False.elim w
    obtain ⟨w0, w⟩ := w
    obtain ⟨X, e, w⟩ := opt_inv w
    exact .tup _ _ _ w0.1 w0.2 e w
  · cases y <;> try exact False.elim w
    rename_i a i
    unfold zD5 at w
    dsimp only at w
    generalize hx : H a = o at w
    cases o with
    | none => exact False.elim w
    | some o =>
      cases o <;> try exact False.elim w
      · obtain ⟨w0, w⟩ := w
        obtain ⟨X, e, w⟩ := opt_inv w
        exact .list _ _ _ _ hx w0.1 w0.2 e w
      · dsimp only at w
        obtain ⟨X, e, w⟩ := opt_inv w
        exact .dict _ _ _ _ _ hx e w
theorem rv_getItem : RV2 c d nm getItem zD5 := by
  intro A rm L G l H s Q x y u v S rx ry w
  replace w := sub_inv w
  cases w with
  | tup xs i X h0 h1 hX w =>
    obtain ⟨a, its, rfl, ht, rl⟩ := rx
    obtain ⟨t, rfl⟩ := ry
    obtain ⟨v, hv, r⟩ := rl.get hX
    have hv' : its[i.toNat]? = some v := by rw [← Array.getElem?_toList]; exact hv
    have hlt : i.toNat < its.size := (Array.getElem?_eq_some_iff.mp hv').1
    exact PyProof.Rows.getItem_tuple ht (by lia) (by lia) (seqIndex_nat h0 hlt) hv' (PV.mk r S (Ext.refl _) w)
  | list a i xs X hx h0 h1 hX w =>
    rw [show u = _ from rx]
    obtain ⟨t, rfl⟩ := ry
    obtain ⟨vs, n, g, rl⟩ := S.hs.obj a _ hx
    obtain ⟨v, hv, r⟩ := rl.get hX
    exact wpAny_getItem_list ⟨_, g, rfl, n, rfl⟩ h0 (by lia) (by rw [← Array.getElem?_toList]; exact hv) (PV.mk r S (Ext.refl _) w)
  | dict a i ep es X hx hX w =>
    rw [show u = _ from rx]
    refine zC5 fun _ hk => ?_
    obtain ⟨t, rfl⟩ := ry
    obtain ⟨kvs, g, rp⟩ := S.hs.obj a _ hx
    obtain ⟨v, hv, r⟩ := rp.look_some hX
    refine hk ?_
    exact wpAny_getItem_of (intKind_is _ _ i t) g.dictOf.mapOf hv (PV.mk r S.tok Ext.tok w)
theorem AO_typeIs {G l L H s a} (S : Sm c G L nm l H s) : ∀ {o : AO}, H a = some o → (∃ xs, o = .list xs) ∨ (∃ ep es, o = .dictI ep es) → (s.TypeIs (.ref a) "list" ∧ typeLookup (.type "list") "__getitem__" = pure (some (.builtin "list.__getitem__"))) ∨ (s.TypeIs (.ref a) "dict" ∧ typeLookup (.type "dict") "__getitem__" = pure (some (.builtin "dict.__getitem__")))
  | _, e, .inl ⟨xs, q⟩ => by subst q; obtain ⟨vs, n, g, _⟩ := S.hs.obj a _ e; exact .inl ⟨⟨_, g, rfl⟩, slot_list_getitem.lookup⟩
  | _, e, .inr ⟨ep, es, q⟩ => by subst q; obtain ⟨kvs, g, _⟩ := S.hs.obj a _ e; exact .inr ⟨g.dictOf.typeIs, slot_dict_getitem.lookup⟩
theorem zC1 {value slice : Expr} (hs : autoParam (∀ o i, subscripted slice false o i = operate [o, i] (getItem o i)) auU) : RV2 c d nm (subscriptTail value slice) zD5 := by
  intro A rm L G l H s Q x y u v S rx ry w
  have g := rv_getItem (c := c) (d := d) (nm := nm) A rm L G l H s Q x y u v S rx ry w
  replace w := sub_inv w
  cases w with
  | tup xs i X h0 h1 hX w =>
    obtain ⟨a, its, rfl, ht, rl⟩ := rx
    exact tail_any ht.typeIs slot_tuple_getitem.lookup g (hs _ _)
  | list a i xs X hx h0 h1 hX w =>
    rw [show u = _ from rx] at g ⊢
    rcases AO_typeIs S hx (.inl ⟨_, rfl⟩) with ⟨t, z⟩ | ⟨t, z⟩ <;> exact tail_any t z g (hs _ _)
  | dict a i ep es X hx hX w =>
    rw [show u = _ from rx] at g ⊢
    rcases AO_typeIs S hx (.inr ⟨_, _, rfl⟩) with ⟨t, z⟩ | ⟨t, z⟩ <;> exact tail_any t z g (hs _ _)
noncomputable def wUpto (x y : V) : Wp V := fun H Q => match x, y with
  | .ref a, .int i => match H a with
    | some (.list xs) => (0 ≤ i ∧ xs.length ≤ 1000000) ∧ ∀ n, H n = none → Q (.ref n) (H.set n (.list (xs.take i.toNat)))
    | _ => False
  | _, _ => False
noncomputable def wFrom (x y : V) : Wp V := fun H Q => match x, y with
  | .ref a, .int i => match H a with
    | some (.list xs) => (0 ≤ i ∧ xs.length ≤ 1000000) ∧ ∀ n, H n = none → Q (.ref n) (H.set n (.list (xs.drop i.toNat)))
    | _ => False
  | .tup xs, .int i => (1 ≤ i ∧ i.toNat ≤ xs.length ∧ xs.length ≤ 1000000) ∧ Q (.tup (xs.drop i.toNat)) H
  | _, _ => False
theorem wUpto_inv {x y : V} {H Q} (w : wUpto x y H Q) : ∃ a i xs, x = .ref a ∧ y = .int i ∧ H a = some (.list xs) ∧ (0 ≤ i ∧ xs.length ≤ 1000000) ∧ ∀ n, H n = none → Q (.ref n) (H.set n (.list (xs.take i.toNat))) := by
  cases x <;> try exact False.elim w
  cases y <;> try exact False.elim w
  obtain ⟨xs, hx, w⟩ := ao_list w
  exact ⟨_, _, _, rfl, rfl, hx, w⟩
theorem wFrom_inv {x y : V} {H Q} (w : wFrom x y H Q) : (∃ a i xs, x = .ref a ∧ y = .int i ∧ H a = some (.list xs) ∧ (0 ≤ i ∧ xs.length ≤ 1000000) ∧ ∀ n, H n = none → Q (.ref n) (H.set n (.list (xs.drop i.toNat)))) ∨
    ∃ xs i, x = .tup xs ∧ y = .int i ∧ (1 ≤ i ∧ i.toNat ≤ xs.length ∧ xs.length ≤ 1000000) ∧ Q (.tup (xs.drop i.toNat)) H := by
  cases x <;> try exact False.elim w
  · cases y <;> try exact False.elim w
    exact .inr ⟨_, _, rfl, rfl, w⟩
  · cases y <;> try exact False.elim w
    obtain ⟨xs, hx, w⟩ := ao_list w
    exact .inl ⟨_, _, _, rfl, rfl, hx, w⟩
theorem get_push2 {h : Heap} {o₁ o₂ : Obj} (hf : o₂.isFreed = false) : ((h.push o₁).push o₂).get? (h.objs.size + 1) = some o₂ := by
  have := Heap.get?_push_size (h.push o₁) hf
  rwa [Heap.size_push] at this
theorem Sm.newList2 {G L l H s} (S : Sm c G L nm l H s) (o₁ : Obj) {xs : List V} {vs : Array Value} (r : ReL s.heap xs vs.toList) {Q : V → AH → Prop}
    (q : ∀ n, H n = none → Q (.ref n) (H.set n (.list xs))) : PV c G L nm l s Q (.ref (s.heap.objs.size + 1)) { s with heap := (s.heap.push o₁).push { cls := .type "list", data := .seq vs } } := by
  have S1 : Sm c G L nm l H { s with heap := s.heap.push o₁ } := S.push o₁
  have k1 : ∀ b o, s.heap.get? b = some o → ((s.heap.push o₁).push (listOf vs 0)).get? b = some o := fun b o e => Heap.get?_push_of_some _ (Heap.get?_push_of_some _ e)
  have z := S1.alloc (listOf vs 0) (tk := s.toks) (o := .list xs) ⟨vs, 0, Heap.get?_push_size _ rfl, r.tk (Tk.of_keep k1)⟩
  have e : (s.heap.push o₁).objs.size = s.heap.objs.size + 1 := Heap.size_push ..
  have nn := S1.hs.fresh (zH6 _)
  dsimp only at z nn
  rw [e] at z nn
  exact PV.mk (x := .ref (s.heap.objs.size + 1)) rfl z ⟨Tk.of_keep k1, rfl, rfl⟩ (q _ nn.1)
theorem re_upto {value e p pos} {w1 w2 : Ls → Wp V} (h1 : RE c d qn sc nm value w1) (h2 : RE c d qn sc nm e w2) (ht : autoParam (∀ o r, letTemporaryGo value o r = pure ()) auI) :
    RE c d qn sc nm (.Subscript value (.Slice none (some e) none p) pos) (zC3 w1 w2 wUpto) := by
  intro A rm L a cd G l H s Q S w
  refine wpAny_Subscript_list_slice (wpAny_mono (h1 A rm L a cd G l H s _ S w) (fun u s₁ hz2 => ?_) fun _ _ z => z) ht
  obtain ⟨x, H₁, r1, S1, k1, q1⟩ := hz2
  refine wpAny_pure (wpAny_mono (h2 A rm L a cd G l H₁ s₁ _ S1 q1) (fun v s₂ hz2 => ?_) fun _ _ z => z)
  obtain ⟨y, H₂, r2, S2, k2, q2⟩ := hz2
  obtain ⟨aa, i, xs, rfl, rfl, hx, ⟨h0, hb⟩, q⟩ := wUpto_inv q2
  obtain ⟨t, rfl⟩ := r2
  rw [show u = _ from r1]
  obtain ⟨vs, n, g, rl⟩ := S2.hs.obj aa _ hx
  have hl := rl.length
  simp only [Array.length_toList] at hl
  refine ⟨aa, vs, none, some i, rfl, ⟨_, g, rfl, n, rfl⟩, line_big (by lia), .none, .int i t, ?_⟩
  obtain ⟨j, rfl⟩ := Int.eq_ofNat_of_zero_le h0
  rw [slicePick_upto']
  exact (S2.newList2 (xs := xs.take j) _ (by simp only [List.toList_toArray]; exact rl.take j) q).trans (k1.trans k2)
theorem re_from {value e p pos} {w1 w2 : Ls → Wp V} (h1 : RE c d qn sc nm value w1) (h2 : RE c d qn sc nm e w2) (ht : autoParam (∀ o r, letTemporaryGo value o r = pure ()) auI) :
    RE c d qn sc nm (.Subscript value (.Slice (some e) none none p) pos) (zC3 w1 w2 wFrom) := by
  intro A rm L a cd G l H s Q S w
  refine wpAny_bind (wpAny_mono (h1 A rm L a cd G l H s _ S w) (fun u s₁ ⟨x, H₁, r1, S1, k1, q1⟩ => wpAny_bind (wpAny_holding ?_)) fun _ _ z => z)
  refine wpAny_Slice (wpAny_mono (h2 A rm L a cd G l H₁ s₁ _ S1 q1) (fun v s₂ ⟨y, H₂, r2, S2, k2, q2⟩ => wpAny_pure (wpAny_pure (wpAny_bind (wpAny_standAt ?_)))) fun _ _ z => z)
  replace r1 := r1.tk k2.tk
  show wpAny _ _ (subscriptTail value (.Slice (some e) none none p) u _) _ _ _
  rcases wFrom_inv q2 with ⟨aa, i, xs, rfl, rfl, hx, ⟨h0, hb⟩, q⟩ | ⟨xs, i, rfl, rfl, ⟨h0, hj, hb⟩, q⟩
  · obtain ⟨t, rfl⟩ := r2
    rw [show u = _ from r1]
    refine zC5 fun _ hk => ?_
    obtain ⟨vs, n, g, rl⟩ := S2.hs.obj aa _ hx
    have hl := rl.length
    simp only [Array.length_toList] at hl
    obtain ⟨j, rfl⟩ := Int.eq_ofNat_of_zero_le h0
    have hL : s₂.heap.IsList aa vs := ⟨_, g, rfl, n, rfl⟩
    refine hk ?_
    refine subscriptTail_ops (s := { s₂ with heap := s₂.heap.push { cls := .type "slice", data := .fields #[.int j t, .none, .none] } }) (Heap.IsList.typeIs (s := { s₂ with heap := s₂.heap.push { cls := .type "slice", data := .fields #[.int j t, .none, .none] } }) (hL.push _)) list_getitem_lookup
      (wpAny_getItem_list_slice (hL.push _) (Heap.IsSliceOf.new ..) (.int j t) .none .none (by simp) ?_ (line_big (by lia))) rfl (ht _)
    rw [slicePick_from']
    simp only [Heap.size_push]
    exact (S2.newList2 (xs := xs.drop j) _ (by simp only [List.toList_toArray]; exact rl.drop j) q).trans (k1.trans k2)
  · obtain ⟨t, rfl⟩ := r2
    obtain ⟨a', its, rfl, hT, rl⟩ := r1
    obtain ⟨j, rfl⟩ := Int.eq_ofNat_of_zero_le (show (0 : Int) ≤ i by lia)
    have hl := rl.length
    simp only [Array.length_toList] at hl
    have hj' : j ≤ xs.length := by simpa using hj
    have kk : ∀ b o, s₂.heap.get? b = some o → (s₂.heap.push { cls := .type "slice", data := .fields #[.int j t, .none, .none] }).get? b = some o := fun _ _ e => Heap.get?_push_of_some _ e
    have ht' := hT.keeps kk
    refine subscriptTail_ops (s := { s₂ with heap := s₂.heap.push { cls := .type "slice", data := .fields #[.int j t, .none, .none] } }) (IsTup.typeIs (s := { s₂ with heap := s₂.heap.push { cls := .type "slice", data := .fields #[.int j t, .none, .none] } }) ht') slot_tuple_getitem.lookup
      (getItem_tuple_from ht' (Heap.IsSliceOf.new ..) (by lia) (by lia) ?_ (line_big (by lia))) rfl (ht _)
    have S3 : Sm c G L nm l H₂ { s₂ with heap := s₂.heap.push { cls := .type "slice", data := .fields #[.int j t, .none, .none] } } := S2.push _
    refine PV.mk (x := .tup (xs.drop j)) ⟨_, _, rfl, ⟨_, Heap.get?_push_size _ rfl, rfl, 0, rfl⟩, ?_⟩ (S3.push _) (k1.trans (k2.trans ⟨Tk.of_keep fun _ _ e => Heap.get?_push_of_some _ (kk _ _ e), rfl, rfl⟩)) q
    exact (rl.drop j).tk (Tk.of_keep fun _ _ e => Heap.get?_push_of_some _ (kk _ _ e))
noncomputable def noBi : V → Bool
  | .bi _ => false
  | _ => true
theorem handed_re {h : Heap} {X : V} {v : Value} (r : Re h X v) (n : noBi X = true) : handedIn v = true := by
  cases X with
  | bi _ => injection n
  | none => rw [show v = _ from r]; rfl
  | bool _ => rw [show v = _ from r]; rfl
  | int _ => obtain ⟨_, e⟩ := r; rw [e]; rfl
  | str _ => obtain ⟨_, e⟩ := r; rw [e]; rfl
  | tup _ => obtain ⟨_, _, e, _⟩ := r; rw [e]; rfl
  | ref _ => rw [show v = _ from r]; rfl
  | ty _ => rw [show v = _ from r]; rfl
set_option tactic.hygienic true in
theorem lookIn_of {h : Heap} {dd : Addr} {m : Str → Option Value} {o : Obj} (N : h.Ns dd m) (ho : h.get? dd = some o) (name : Str) : lookIn name o = some (m name) := by
  refine zC5 fun _ hk => ?_
  obtain ⟨o', es, ep, e1, e2, e3, e4⟩ := N
  rw [ho] at e1; obtain rfl := Option.some.inj e1
  refine hk ?_
  unfold lookIn
  rw [e2]
  dsimp only
  have q := e4 name
  dsimp only [nsFind, findBy] at q
  rw [← Array.find?_toList] at q
  split
  · rename_i e he; rw [he] at q; rw [← q]; rfl
  · rename_i he
    rw [he] at q
    rw [← q, if_neg]
    · rfl
    · simp only [Bool.not_eq_true]
      rw [List.any_eq_false]
      intro x hx
      obtain ⟨n, t, hk⟩ := e3 x (Array.mem_toList_iff.mp hx)
      simp [DictEntry.refKey, hk]
theorem instAt {h : Heap} {a C dd : Addr} {m : Str → Option Value} (g : h.get? a = some (instObj C dd)) (N : h.Ns dd m) : ∃ o, h.get? dd = some o ∧ InstAt h a (instObj C dd) C (some o) := by
  refine zC5 fun _ hk => ?_
  obtain ⟨o, es, ep, e1, r⟩ := N
  refine hk ?_
  exact ⟨o, e1, g, rfl, rfl, e1⟩
noncomputable def zJ3 (name : Str) (x : V) : Wp V := fun H Q => match x with
  | .ref a => match H a with
    | some (.inst C dd fs) => (match fs.lookup name with | some X => noBi X = true ∧ Q X H | none => False)
    | _ => False
  | _ => False
theorem at_ {name : Str} {a C d : Addr} {fs : List (Str × V)} {X : V} {H : AH} {Q : V → AH → Prop} (h : H a = some (.inst C d fs)) (hl : fs.lookup name = some X) (hb : noBi X = true) : zJ3 name (.ref a) H Q = Q X H := by
  unfold zJ3; dsimp only; rw [h]; dsimp only; rw [hl]; exact propext ⟨And.right, fun q => ⟨hb, q⟩⟩
set_option tactic.hygienic true in
theorem attr_parts {K : Frag} {C : Addr} {name : Str} (h : attrOk K C name = true) : plainGet K C name = true ∧ hasDictIn K C = true ∧ (∃ attr, findIn K (.ref C) name = some attr ∧ noGet K attr = true) ∧
    findIn K (.ref C) "__setattr__" = some (some (.builtin "object.__setattr__")) ∧ plainOver K C = true ∧ takerIn K C name = some none := by
  refine zC5 fun _ hk => ?_
  unfold attrOk at h
  simp only [Bool.and_eq_true, beq_iff_eq] at h
  obtain ⟨⟨⟨⟨⟨a, b⟩, c⟩, d⟩, e⟩, f⟩ := h
  refine hk ?_
  refine ⟨a, b, ?_, d, e, f⟩
  split at c
  · rename_i attr q; exact ⟨attr, q, c⟩
  · injection c
set_option tactic.hygienic true in
theorem zF2 {name : Str} {expr : Bool} : RV1 c d nm (fun o => getAttr o name expr) (zJ3 name) := by
  intro A rm L G l H s Q x u S rx w
  cases x <;> try exact False.elim w
  · rename_i a
    rw [show u = _ from rx]
    · obtain ⟨C, dd, fs, hx, w⟩ := ao_inst (F := fun C dd fs => match fs.lookup name with | some X => noBi X = true ∧ Q X H | none => False) w
      · refine zC5 fun _ hk => ?_
        obtain ⟨X, hX, w⟩ := opt_inv w
        obtain ⟨m, g, N, rn, hf⟩ := S.hs.obj a _ hx
        obtain ⟨o, ho, I⟩ := instAt g N.ns
        obtain ⟨p1, p2, ⟨attr, p3, p4⟩, _⟩ := attr_parts (c.attr (hf name (by rw [hX]; simp)))
        have q := rn name
        rw [hX] at q
        obtain ⟨v, hv, r⟩ := q
        have hl : lookIn name o = some (some v) := by simp only [lookIn_of N.ns ho name, hv]
        refine hk ?_
        exact get_value S.hs.X I (plainGet_of p1).1 (findObj_own p2 p3 p4 hl) (handed_re r w.1) (PV.mk r S.tok Ext.tok w.2)
end
end
section
section
variable {c : Cx} {d : Nat} {qn : Str} {sc : Scope} {nm : List Str}
noncomputable def kTruth (Q : Bool → AH → Prop) (x : V) (H : AH) : Prop := match x with | .bool b => Q b H | _ => False
theorem kTruth_b {Q : Bool → AH → Prop} {b : Bool} {H : AH} : kTruth Q (.bool b) H = Q b H := rfl
noncomputable def zB4 (w : Ls → Wp V) (l : Ls) : Wp Bool := fun H Q => w l H (kTruth Q)
theorem truth_ {A} {G L l s} {Q : Bool → AH → Prop} {v : Value} {s' : Shared} (p : PV c G L nm l s (kTruth Q) v s') :
    wpAny c.M A (truthy v) (PB c G L nm l s Q) NoE s' := by
  obtain ⟨x, H', r, S, e, q⟩ := p
  cases x with
  | bool b => rw [show v = _ from r]; exact wpAny_truthy_bool ⟨H', S, e, q⟩
  | _ => exact q.elim
theorem rt_of {e : Expr} {w : Ls → Wp V} (h : RE c d qn sc nm e w) (he : autoParam (∀ env whole, isTrue e env whole = (do let v ← whole; standAt e.pos; holding [v] (truthy v))) auI) : RT c d qn sc nm e (zB4 w) := by
  intro A rm L a cd G l H s Q S q
  rw [he]
  exact wpAny_bind (wpAny_mono (h A rm L a cd G l H s _ S q) (fun v s' p => wpAny_bind (wpAny_standAt (wpAny_holding (truth_ p)))) fun _ _ z => z)
theorem zC4 {l op r pos} {w1 w2 : Ls → Wp V} {f : V → V → Wp V} (h1 : RE c d qn sc nm l w1) (h2 : RE c d qn sc nm r w2) (h : RV2 c d nm (compareOp op) f) (hm : autoParam (behindInMarks op r = false) auW) :
    RT c d qn sc nm (.Compare l [op] [r] pos) (zB4 (zC3 w1 w2 f)) := fun A rm L a cd G l H s Q S w =>
  wpAny_isTrue_Compare1 (wpAny_mono (two_ h1 h2 h rm S w) (fun _ _ h => wpAny_mono h (fun _ _ h => wpAny_mono h (fun v s' p => truth_ p) fun _ _ z => z) fun _ _ z => z) fun _ _ z => z) hm
noncomputable def kNot (Q : Bool → AH → Prop) (b : Bool) (H : AH) : Prop := Q (!b) H
noncomputable def wNotB (w : Ls → Wp Bool) (l : Ls) : Wp Bool := fun H Q => w l H (kNot Q)
theorem rt_not {x pos} {w : Ls → Wp Bool} (h : RT c d qn sc nm x w) : RT c d qn sc nm (.UnaryOp .Not x pos) (wNotB w) := by
  intro A rm L a cd G l H s Q S q
  exact wpAny_bind (wpAny_mono (h A rm L a cd G l H s _ S q) (fun b s' ⟨H', S', e, q'⟩ => wpAny_pure ⟨H', S', e, q'⟩) fun _ _ z => z)
noncomputable def RTs (c : Cx) (d : Nat) (qn : Str) (sc : Scope) (nm : List Str) (op : BoolOp) (es : List Expr) (w : Ls → Wp Bool) : Prop :=
  ∀ A, Room A d → ∀ L a cd G l H s Q, Sm c G L nm l H s → w l H Q → wpAny c.M A (allTrue op es (envOf qn sc L a cd)) (PB c G L nm l s Q) NoE s
noncomputable def wTrue (b : Bool) (_ : Ls) : Wp Bool := fun H Q => Q b H
noncomputable def kAnd (w2 : Ls → Wp Bool) (l : Ls) (Q : Bool → AH → Prop) (b : Bool) (H : AH) : Prop := match b with | true => w2 l H Q | false => Q false H
theorem kAnd_t {w2 : Ls → Wp Bool} {l : Ls} {Q : Bool → AH → Prop} {H : AH} : kAnd w2 l Q true H = w2 l H Q := rfl
theorem kAnd_f {w2 : Ls → Wp Bool} {l : Ls} {Q : Bool → AH → Prop} {H : AH} : kAnd w2 l Q false H = Q false H := rfl
noncomputable def wAndB (w1 w2 : Ls → Wp Bool) (l : Ls) : Wp Bool := fun H Q => w1 l H (kAnd w2 l Q)
noncomputable def kOr (w2 : Ls → Wp Bool) (l : Ls) (Q : Bool → AH → Prop) (b : Bool) (H : AH) : Prop := match b with | true => Q true H | false => w2 l H Q
theorem kOr_t {w2 : Ls → Wp Bool} {l : Ls} {Q : Bool → AH → Prop} {H : AH} : kOr w2 l Q true H = Q true H := rfl
theorem kOr_f {w2 : Ls → Wp Bool} {l : Ls} {Q : Bool → AH → Prop} {H : AH} : kOr w2 l Q false H = w2 l H Q := rfl
noncomputable def wOrB (w1 w2 : Ls → Wp Bool) (l : Ls) : Wp Bool := fun H Q => w1 l H (kOr w2 l Q)
theorem rts_nilA : RTs c d qn sc nm .And [] (wTrue true) := fun A rm L a cd G l H s Q S q => wpAny_pure ⟨H, S, Ext.refl _, q⟩
theorem rts_nilO : RTs c d qn sc nm .Or [] (wTrue false) := fun A rm L a cd G l H s Q S q => wpAny_pure ⟨H, S, Ext.refl _, q⟩
theorem rts_and {e es} {w1 w2 : Ls → Wp Bool} (h1 : RT c d qn sc nm e w1) (h2 : RTs c d qn sc nm .And es w2) : RTs c d qn sc nm .And (e :: es) (wAndB w1 w2) := by
  intro A rm L a cd G l H s Q S q
  refine wpAny_bind (wpAny_mono (h1 A rm L a cd G l H s _ S q) (fun b s' hz2 => ?_) fun _ _ z => z)
  obtain ⟨H', S', e, q'⟩ := hz2
  cases b with
  | false => exact wpAny_pure ⟨H', S', e, q'⟩
  | true => exact wpAny_mono (h2 A rm L a cd G l H' s' _ S' q') (fun _ _ p => p.trans e) fun _ _ z => z
theorem zH7 {e es} {w1 w2 : Ls → Wp Bool} (h1 : RT c d qn sc nm e w1) (h2 : RTs c d qn sc nm .Or es w2) : RTs c d qn sc nm .Or (e :: es) (wOrB w1 w2) := by
  intro A rm L a cd G l H s Q S q
  refine wpAny_bind (wpAny_mono (h1 A rm L a cd G l H s _ S q) (fun b s' hz2 => ?_) fun _ _ z => z)
  obtain ⟨H', S', e, q'⟩ := hz2
  cases b with
  | true => exact wpAny_pure ⟨H', S', e, q'⟩
  | false => exact wpAny_mono (h2 A rm L a cd G l H' s' _ S' q') (fun _ _ p => p.trans e) fun _ _ z => z
theorem zH4 {op es pos} {w : Ls → Wp Bool} (h : RTs c d qn sc nm op es w) : RT c d qn sc nm (.BoolOp op es pos) w := h
noncomputable def REb (c : Cx) (d : Nat) (qn : Str) (sc : Scope) (nm : List Str) (op : BoolOp) (es : List Expr) (w : Ls → Wp V) : Prop :=
  ∀ A, Room A d → ∀ L a cd pos G l H s Q, Sm c G L nm l H s → w l H Q → wpAny c.M A (boolOp pos op (evalEach es (envOf qn sc L a cd))) (PV c G L nm l s Q) NoE s
noncomputable def kAndV (w2 : Ls → Wp V) (l : Ls) (Q : V → AH → Prop) (x : V) (H : AH) : Prop := match x with | .bool true => w2 l H Q | .bool false => Q (.bool false) H | _ => False
theorem kAndV_t {w2 : Ls → Wp V} {l : Ls} {Q : V → AH → Prop} {H : AH} : kAndV w2 l Q (.bool true) H = w2 l H Q := rfl
theorem kAndV_f {w2 : Ls → Wp V} {l : Ls} {Q : V → AH → Prop} {H : AH} : kAndV w2 l Q (.bool false) H = Q (.bool false) H := rfl
noncomputable def wAndV (w1 w2 : Ls → Wp V) (l : Ls) : Wp V := fun H Q => w1 l H (kAndV w2 l Q)
noncomputable def kOrV (w2 : Ls → Wp V) (l : Ls) (Q : V → AH → Prop) (x : V) (H : AH) : Prop := match x with | .bool false => w2 l H Q | .bool true => Q (.bool true) H | _ => False
theorem kOrV_t {w2 : Ls → Wp V} {l : Ls} {Q : V → AH → Prop} {H : AH} : kOrV w2 l Q (.bool true) H = Q (.bool true) H := rfl
theorem kOrV_f {w2 : Ls → Wp V} {l : Ls} {Q : V → AH → Prop} {H : AH} : kOrV w2 l Q (.bool false) H = w2 l H Q := rfl
noncomputable def wOrV (w1 w2 : Ls → Wp V) (l : Ls) : Wp V := fun H Q => w1 l H (kOrV w2 l Q)
theorem reb_one {op e} {w : Ls → Wp V} (h : RE c d qn sc nm e w) : REb c d qn sc nm op [e] w := fun A rm L a cd pos G l H s Q S q => h A rm L a cd G l H s Q S q
set_option backward.match.sparseCases true in
theorem reb_and {e e2 es} {w1 w2 : Ls → Wp V} (h1 : RE c d qn sc nm e w1) (h2 : REb c d qn sc nm .And (e2 :: es) w2) : REb c d qn sc nm .And (e :: e2 :: es) (wAndV w1 w2) := by
  intro A rm L a cd pos G l H s Q S q
  show wpAny _ _ (do
    let v ← eval e (envOf qn sc L a cd)
    standAt pos
    let t ← holding [v] (truthy v)
    match BoolOp.And, t with
    | .And, false | .Or, true => pure v
    | _, _ => boolOp pos .And (evalEach (e2 :: es) (envOf qn sc L a cd))) _ _ _
  refine wpAny_bind (wpAny_mono (h1 A rm L a cd G l H s _ S q) (fun v s' ⟨x, H', r, S', e, q'⟩ => wpAny_bind (wpAny_standAt (wpAny_bind (wpAny_holding ?_)))) fun _ _ z => z)
  cases x with
  | bool b =>
    rw [show v = _ from r]
    cases b with
    | true => exact wpAny_truthy_bool (wpAny_mono (h2 A rm L a cd pos G l H' s' _ S' q') (fun _ _ p => p.trans e) fun _ _ z => z)
    | false => exact wpAny_truthy_bool (wpAny_pure (PV.mk (x := .bool false) rfl S' e q'))
  | _ => exact q'.elim
set_option backward.match.sparseCases true in
theorem reb_or {e e2 es} {w1 w2 : Ls → Wp V} (h1 : RE c d qn sc nm e w1) (h2 : REb c d qn sc nm .Or (e2 :: es) w2) : REb c d qn sc nm .Or (e :: e2 :: es) (wOrV w1 w2) := by
  intro A rm L a cd pos G l H s Q S q
  show wpAny _ _ (do
    let v ← eval e (envOf qn sc L a cd)
    standAt pos
    let t ← holding [v] (truthy v)
    match BoolOp.Or, t with
    | .And, false | .Or, true => pure v
    | _, _ => boolOp pos .Or (evalEach (e2 :: es) (envOf qn sc L a cd))) _ _ _
  refine wpAny_bind (wpAny_mono (h1 A rm L a cd G l H s _ S q) (fun v s' ⟨x, H', r, S', e, q'⟩ => wpAny_bind (wpAny_standAt (wpAny_bind (wpAny_holding ?_)))) fun _ _ z => z)
  cases x with
  | bool b =>
    rw [show v = _ from r]
    cases b with
    | false => exact wpAny_truthy_bool (wpAny_mono (h2 A rm L a cd pos G l H' s' _ S' q') (fun _ _ p => p.trans e) fun _ _ z => z)
    | true => exact wpAny_truthy_bool (wpAny_pure (PV.mk (x := .bool true) rfl S' e q'))
  | _ => exact q'.elim
theorem re_bool' {op es pos} {w : Ls → Wp V} (h : REb c d qn sc nm op es w) : RE c d qn sc nm (.BoolOp op es pos) w := fun A rm L a cd G l H s Q S q => h A rm L a cd pos G l H s Q S q
theorem re_un {op x pos} {w1 : Ls → Wp V} {f : V → Wp V} (h1 : RE c d qn sc nm x w1) (h : RV1 c d nm (unaryOp op) f) : RE c d qn sc nm (.UnaryOp op x pos) (wOne w1 f) := by
  intro A rm L a cd G l H s Q S w
  exact wpAny_bind (wpAny_mono (h1 A rm L a cd G l H s _ S w) (fun u s₁ ⟨x, H₁, r1, S1, k1, q1⟩ => wpAny_bind (wpAny_standAt (wpAny_holding (wpAny_mono (h A rm L G l H₁ s₁ Q x u S1 r1 q1) (fun _ _ p => p.trans k1) fun _ _ z => z)))) fun _ _ z => z)
noncomputable def kIf (w1 w2 : Ls → Wp V) (l : Ls) (Q : V → AH → Prop) (b : Bool) (H : AH) : Prop := match b with | true => w1 l H Q | false => w2 l H Q
theorem kIf_t {w1 w2 : Ls → Wp V} {l : Ls} {Q : V → AH → Prop} {H : AH} : kIf w1 w2 l Q true H = w1 l H Q := rfl
theorem kIf_f {w1 w2 : Ls → Wp V} {l : Ls} {Q : V → AH → Prop} {H : AH} : kIf w1 w2 l Q false H = w2 l H Q := rfl
noncomputable def wIf (wt : Ls → Wp Bool) (w1 w2 : Ls → Wp V) (l : Ls) : Wp V := fun H Q => wt l H (kIf w1 w2 l Q)
theorem re_if {t b o pos} {wt : Ls → Wp Bool} {w1 w2 : Ls → Wp V} (ht : RT c d qn sc nm t wt) (h1 : RE c d qn sc nm b w1) (h2 : RE c d qn sc nm o w2) : RE c d qn sc nm (.IfExp t b o pos) (wIf wt w1 w2) := by
  intro A rm L a cd G l H s Q S q
  refine wpAny_bind (wpAny_mono (ht A rm L a cd G l H s _ S q) (fun b s' hz2 => ?_) fun _ _ z => z)
  obtain ⟨H', S', e, q'⟩ := hz2
  cases b with
  | true => exact wpAny_mono (h1 A rm L a cd G l H' s' _ S' q') (fun _ _ p => p.trans e) fun _ _ z => z
  | false => exact wpAny_mono (h2 A rm L a cd G l H' s' _ S' q') (fun _ _ p => p.trans e) fun _ _ z => z
noncomputable def zB5 (_ : Ls) : Wp (List V) := fun H Q => Q [] H
noncomputable def kC2 (x : V) (Q : List V → AH → Prop) (xs : List V) (H : AH) : Prop := Q (x :: xs) H
noncomputable def kC1 (ws : Ls → Wp (List V)) (l : Ls) (Q : List V → AH → Prop) (x : V) (H : AH) : Prop := ws l H (kC2 x Q)
noncomputable def zA4 (w : Ls → Wp V) (ws : Ls → Wp (List V)) (l : Ls) : Wp (List V) := fun H Q => w l H (kC1 ws l Q)
theorem zA7 : REs c d qn sc nm [] zB5 := fun A rm L a cd pos G l H s Q S q => Calls.spliced_nil ⟨[], H, ReL.nil, S, Ext.refl _, q⟩
theorem zA2 {e es} {w : Ls → Wp V} {ws : Ls → Wp (List V)} (h : RE c d qn sc nm e w) (hs : REs c d qn sc nm es ws)
    (he : autoParam (∀ env, starEach (e :: es) env = (false, eval e env) :: starEach es env) auI) : REs c d qn sc nm (e :: es) (zA4 w ws) := by
  intro A rm L a cd pos G l H s Q S q
  rw [he]
  show wpAny _ _ (spliced ((false, eval e (envOf qn sc L a cd)) :: backTo pos (starEach es (envOf qn sc L a cd)))) _ _ _
  exact Calls.spliced_cons (wpAny_mono (h A rm L a cd G l H s _ S q) (fun v s₁ ⟨x, H₁, r1, S1, k1, q1⟩ => wpAny_mono (hs A rm L a cd pos G l H₁ s₁ _ S1 q1)
    (fun vs s₂ ⟨xs, H₂, r2, S2, k2, q2⟩ => ⟨x :: xs, H₂, ReL.cons (r1.tk k2.tk) r2, S2, k1.trans k2, q2⟩) fun _ _ z => z) fun _ _ z => z)
noncomputable def kTup (Q : V → AH → Prop) (xs : List V) (H : AH) : Prop := xs.length ≤ 1000000 ∧ Q (.tup xs) H
noncomputable def wTup (ws : Ls → Wp (List V)) (l : Ls) : Wp V := fun H Q => ws l H (kTup Q)
noncomputable def kList (Q : V → AH → Prop) (xs : List V) (H : AH) : Prop := xs.length ≤ 1000000 ∧ ∀ n, H n = none → Q (.ref n) (H.set n (.list xs))
noncomputable def zF5 (ws : Ls → Wp (List V)) (l : Ls) : Wp V := fun H Q => ws l H (kList Q)
noncomputable def wDict (_ : Ls) : Wp V := fun H Q => ∀ n, H n = none → Q (.ref n) (H.set n (.dictE 0))
theorem PV_newTuple {A} {G L l s s₀} {Q : V → AH → Prop} {xs : List V} {vs : List Value} {H : AH} (r : ReL s.heap xs vs) (S : Sm c G L nm l H s) (e : Ext s₀ s) (hz : xs.length ≤ 1000000) (q : Q (.tup xs) H) :
    wpAny c.M A (newTuple vs) (PV c G L nm l s₀ Q) NoE s := by
  have hl := r.length
  refine wpAny_newObj_type ?_ (by show vs.toArray.size ≤ sizeLine; rw [List.size_toArray]; exact line_big (by lia))
  have k : ∀ b o, s.heap.get? b = some o → (s.heap.push { cls := .type "tuple", data := .seq vs.toArray }).get? b = some o := fun _ _ e => Heap.get?_push_of_some _ e
  exact PV.mk (x := .tup xs) ⟨_, vs.toArray, rfl, ⟨_, Heap.get?_push_size _ rfl, rfl, 0, rfl⟩, by simp only [List.toList_toArray]; exact r.tk (Tk.of_keep k)⟩ (S.push _) (e.trans Ext.push) q
theorem PV_newList {A} {G L l s s₀} {Q : V → AH → Prop} {xs : List V} {vs : List Value} {H : AH} (r : ReL s.heap xs vs) (S : Sm c G L nm l H s) (e : Ext s₀ s) (hz : xs.length ≤ 1000000) (q : ∀ n, H n = none → Q (.ref n) (H.set n (.list xs))) :
    wpAny c.M A (newList vs) (PV c G L nm l s₀ Q) NoE s := by
  have hl := r.length
  refine wpAny_newObj_type ?_ (by show vs.toArray.size ≤ sizeLine; rw [List.size_toArray]; exact line_big (by lia))
  have k : ∀ b o, s.heap.get? b = some o → (s.heap.push (listOf vs.toArray 0)).get? b = some o := fun _ _ e => Heap.get?_push_of_some _ e
  exact PV.mk (x := .ref s.heap.objs.size) rfl (S.alloc (o := .list xs) (listOf vs.toArray 0) ⟨vs.toArray, 0, Heap.get?_push_size _ rfl, by simp only [List.toList_toArray]; exact r.tk (Tk.of_keep k)⟩) (e.trans Ext.push) (q _ (S.hs.fresh (zH6 _)).1)
theorem zE7 {es k pos} {ws : Ls → Wp (List V)} (h : REs c d qn sc nm es ws) : RE c d qn sc nm (.Tuple es k pos) (wTup ws) := fun A rm L a cd G l H s Q S q =>
  Tuple_ (wpAny_mono (h A rm L a cd pos G l H s _ S q) (fun vs s₁ ⟨xs, H₁, r, S1, e, z, q1⟩ => PV_newTuple r S1 e z q1) fun _ _ z => z)
theorem zE2 {es pos} {ws : Ls → Wp (List V)} (h : REs c d qn sc nm es ws) : RE c d qn sc nm (.List es pos) (zF5 ws) := fun A rm L a cd G l H s Q S q =>
  List_ (wpAny_mono (h A rm L a cd pos G l H s _ S q) (fun vs s₁ ⟨xs, H₁, r, S1, e, z, q1⟩ => PV_newList r S1 e z q1) fun _ _ z => z)
theorem re_dict {pos} : RE c d qn sc nm (.Dict [] [] pos) wDict := fun A rm L a cd G l H s Q S q =>
  wpAny_Dict_empty (PV.mk (x := .ref s.heap.objs.size) rfl (S.alloc (o := .dictE 0) { cls := .type "dict", data := .dict #[] } (Heap.get?_push_size _ rfl)) Ext.push (q _ (S.hs.fresh (zH6 _)).1))
end
end
section
theorem DictE_of {prog w} {K : Type} [DecidableEq K] (knd : KeyKind prog w K) {h : Heap} {a : Addr} {n : Nat} (e : h.get? a = some { cls := .type "dict", data := .dict #[] n }) : h.DictOf knd a [] := by
  exact ⟨_, #[], n, e, ⟨rfl, rfl, rfl⟩, rfl, fun _ he => by simp at he, Pairs.nil, List.nodup_nil⟩
theorem HS.loose {c : Cx} {G H s s'} (S : HS c G H s) {a : Addr} (hG : G a = none) (hH : H a = none) (k : ∀ b o, b ≠ a → s.heap.get? b = some o → s'.heap.get? b = some o) (t : Tk s.heap s'.heap) : HS c G H s' where
  base := S.base
  prot := fun b o e => k b o (fun q => by rw [q, hG] at e; injection e) (S.prot b o e)
  obj := fun b o e => (S.obj b o e).keep t (fun ob => k b ob fun q => by rw [q, hH] at e; injection e)
    (fun C d fs z ob => k d ob fun q => by subst z; have := S.wf b C d fs e; rw [q, hH] at this; injection this)
  disj := S.disj
  wf := S.wf
  ns := S.ns
theorem ns_nt {h : Heap} {a : Addr} {m} (N : h.Ns a m) : ∃ o, h.get? a = some o ∧ NT o := by
  refine zC5 fun _ hk => ?_
  obtain ⟨o, es, ep, e, d, _⟩ := N
  refine hk ?_
  exact ⟨o, e, fun _ i n q => by rw [d] at q; cases q⟩
section
variable {c : Cx} {d : Nat} {qn : Str} {sc : Scope} {nm : List Str}
theorem Sm.store {G L l H s s'} (S : Sm c G L nm l H s) (hnd : nm.Nodup) {i : Nat} {x : Str} (hi : nm[i]? = some x) {X : V} {v : Value} (r : Re s.heap X v) {m : Str → Option Value} (hn : s.heap.Ns L m) (hl : LR s.heap m nm l)
    (hn' : s'.heap.Ns L (fun y => if y = x then some v else m y)) (k : Heap.SameBut L s.heap s'.heap) : Sm c G L nm (l.set i (some X)) H s' ∧ Tk s.heap s'.heap := by
  obtain ⟨o, ho, nt⟩ := ns_nt hn
  have t := tk_sameBut k ho nt
  exact ⟨⟨S.hs.loose S.gL S.hL (fun b o ne e => zH1 k ne e) t, S.gL, S.hL, ⟨_, hn', LR.set (r.tk t) hnd hi (hl.tk t)⟩⟩, t⟩
theorem setItem_list_at {A : Around} {E : Value → Shared → Prop} {s : Shared} {l : Addr} {items : Array Value} {n : Nat} {k : Int} {t : Tok} {v : Value} {Q : Unit → Shared → Prop} (ho : s.heap.get? l = some (listOf items n))
    (h0 : 0 ≤ k) (hfit : k < 2 ^ 63) (hn : k < items.size)
    (hQ : ∀ h' n', h'.get? l = some (listOf (items.setIfInBounds k.toNat v) n') → Heap.SameBut l s.heap h' → Q () { s with heap := h' }) :
    wpAny c.M A (setItem (.ref l) (.int k t) v) Q E s := by
  have hl : s.heap.IsList l items := ⟨_, ho, rfl, n, rfl⟩
  unfold setItem
  try with_reducible refine wpAny_holding ?_
  first | refine wpAny_bind (wpAny_pure ?_) | skip
  refine wpAny_bind (wpAny_sequenceKey hl.typeIs (by decide) ?_)
  refine wpAny_bind (wpAny_callSpecial?_slot (name := Str.ofString "__setitem__") hl.typeIs PySem.F.slot_list_setitem
    (wpAny_call_entry PySem.F.slot_list_setitem hl.typeIs PySem.F.entry_list_setitem ?_ (PySem.F.args_list_setitem_3 _ _ _)))
  show wpAny _ _ (Builtin.List.listSubscript? (.int k t) >>= _) _ _ s
  refine wpAny_bind (wpAny_listSubscript_int (fitsIndex_of h0 hfit) ?_)
  clear hfit
  obtain ⟨j, rfl⟩ := Int.eq_ofNat_of_zero_le h0
  have hj : j < items.size := by lia
  have hx' : items[j]? = some items[j] := Array.getElem?_eq_getElem hj
  refine wpAny_bind (wpAny_bind (wpAny_seqItemAt ho rfl (wpAny_pure ?_)))
  rw [hx']
  show wpAny _ _ (setSeqItemAt l j v >>= _) _ _ s
  obtain ⟨n', hfin⟩ : ∃ n', (s.heap.update l (Obj.mapSeq (·.setIfInBounds j v))).get? l = some (listOf (items.setIfInBounds j v) n') :=
    ⟨_, Heap.get?_update_self _ ho rfl⟩
  refine wpAny_bind (wpAny_setSeqItemAt ho rfl ?_)
  first
    | exact wpAny_bind (wpAny_pure (wpAny_pure ⟨.none, rfl, wpAny_pure (hQ _ _ hfin (Heap.SameBut.update ..))⟩))
    | exact wpAny_pure ⟨.none, rfl, wpAny_pure (hQ _ _ hfin (Heap.SameBut.update ..))⟩
noncomputable def TG (c : Cx) (d : Nat) (qn : Str) (sc : Scope) (nm : List Str) (t : Expr) (w : V → Ls → AH → (Ls → AH → Prop) → Prop) : Prop :=
  ∀ A, Room A d → ∀ L a cd G l H s Q x v, Sm c G L nm l H s → Re s.heap x v → w x l H Q → wpAny c.M A (assign t (envOf qn sc L a cd) v) (fun _ s' => ∃ l' H', Sm c G L nm l' H' s' ∧ Ext s s' ∧ Q l' H') NoE s
noncomputable def zG2 (i : Nat) (x : V) (l : Ls) (H : AH) (Q : Ls → AH → Prop) : Prop := Q (l.set i (some x)) H
theorem store_ {A} {L a cd G l H s} {Q : Unit → Shared → Prop} {x : Str} {X : V} {v : Value} (i : Nat) (S : Sm c G L nm l H s) (r : Re s.heap X v) (hi : nm[i]? = some x) (hnd : nm.Nodup) (hx : sc.names.lookup x = some .local) (hk : sc.kind = .function)
    (q : ∀ s', Sm c G L nm (l.set i (some X)) H s' → Ext s s' → Q () s') : wpAny c.M A (storeName (envOf qn sc L a cd) x v) Q NoE s := by
  obtain ⟨m, hn, hl⟩ := S.fr
  refine wpAny_storeName_local (env := envOf qn sc L a cd) hx hn (fun h' hn' k => ?_) (by show (sc.kind == .class || (sc.kind == .module && _)) = false; rw [hk]; rfl)
  obtain ⟨S', t⟩ := S.store (s' := { s with heap := h', toks := s.toks + 1 }) hnd hi r hn hl hn' k
  exact q _ S' ⟨t, rfl, rfl⟩
theorem tg_name {x : Str} {pos : Pos} (i : Nat) (hi : autoParam (nm[i]? = some x) auK) (hnd : autoParam (nm.Nodup) auA) (hx : autoParam (sc.names.lookup x = some .local) auK) (hk : autoParam (sc.kind = .function) auK) : TG c d qn sc nm (.Name x pos) (zG2 i) := by
  intro A rm L a cd G l H s Q X v S r q
  exact PyProof.Rows.assign_Name (store_ i S r hi hnd hx hk fun s' S' e => ⟨_, _, S', e, q⟩)
noncomputable def wSet2 (i j : Nat) (x : V) (l : Ls) (H : AH) (Q : Ls → AH → Prop) : Prop := match x with | .tup [u, v] => Q ((l.set i (some u)).set j (some v)) H | _ => False
theorem wSet2_t {i j : Nat} {u v : V} {l : Ls} {H : AH} {Q : Ls → AH → Prop} : wSet2 i j (.tup [u, v]) l H Q = Q ((l.set i (some u)).set j (some v)) H := rfl
theorem ext_tk {h h' : Heap} (e : Heap.ExtBut h.objs.size h h') : ∀ b o, h.get? b = some o → h'.get? b = some o := fun b o q => e b o (Nat.ne_of_lt (Heap.lt_size q)) q
set_option tactic.hygienic true in
theorem tg_two {x y : Str} {k pos p1 p2} (i j : Nat) (hi : autoParam (nm[i]? = some x) auK) (hj : autoParam (nm[j]? = some y) auK) (hnd : autoParam (nm.Nodup) auA) (hx : autoParam (sc.names.lookup x = some .local) auK) (hy : autoParam (sc.names.lookup y = some .local) auK) (hk : autoParam (sc.kind = .function) auK) :
    TG c d qn sc nm (.Tuple [.Name x p1, .Name y p2] k pos) (wSet2 i j) := by
  intro A rm L a cd G l H s Q X v S r q
  cases X <;> try exact False.elim q
  rename_i xs
  rcases xs with _ | ⟨u, _ | ⟨w, _ | ⟨z, r'⟩⟩⟩ <;> try exact False.elim q
  · obtain ⟨t, its, rfl, ht, rl⟩ := r
    obtain ⟨u', vs, e1, r1, w', vs', e2, r2, e3⟩ := rl
    rw [show vs' = _ from e3] at e2
    simp only [e2] at e1
    have hz : its.size = 2 := by simp only [← Array.length_toList, e1]; rfl
    refine wpAny_assign_Tuple rm.1 ht (by simp only [hz]; rfl) rfl fun h' k' => ?_
    have ek := ext_tk k'
    have S1 : Sm c G L nm l H { s with heap := h' } := S.step ek
    simp only [e1]
    show wpAny _ _ (assignInOrder [assign (.Name x p1) (envOf qn sc L a cd), assign (.Name y p2) (envOf qn sc L a cd)] [u', w']) _ _ _
    refine wpAny_bind (wpAny_holding (PyProof.Rows.assign_Name (store_ i S1 (r1.tk (Tk.of_keep ek)) hi hnd hx hk fun s2 S2 e2 => ?_)))
    refine wpAny_bind (wpAny_holding (PyProof.Rows.assign_Name (store_ j S2 ((r2.tk (Tk.of_keep ek)).tk e2.tk) hj hnd hy hk fun s3 S3 e3 => wpAny_pure ?_)))
    exact ⟨_, _, S3, (show Ext s { s with heap := h' } from ⟨Tk.of_keep ek, rfl, rfl⟩).trans (e2.trans e3), q⟩
noncomputable def kAsg (l : Ls) (i : Nat) (Q : Fl → AH → Prop) (x : V) (H : AH) : Prop := Q (.next (l.set i (some x))) H
noncomputable def zG7 (w : Ls → Wp V) (i : Nat) (l : Ls) : Wp Fl := fun H Q => w l H (kAsg l i Q)
theorem zD6 {x pos' value pos} {w : Ls → Wp V} (i : Nat) (h : RE c d qn sc nm value w) (hi : autoParam (nm[i]? = some x) auK) (hnd : autoParam (nm.Nodup) auA) (hx : autoParam (sc.names.lookup x = some .local) auK) (hk : autoParam (sc.kind = .function) auK)
    (hs : autoParam (∀ L a cd, swapsWith value (some (.Name x pos')) pos.line (envOf qn sc L a cd) = pure false) auI) : RS c d qn sc nm (.Assign [.Name x pos'] value pos) (zG7 w i) := by
  intro A rm L a cd G l H s Q S q
  exact wpAny_Assign_Name (wpAny_mono (h A rm L a cd G l H s _ S q) (fun v s1 ⟨X, H1, r, S1, e, q1⟩ => store_ i S1 r hi hnd hx hk fun s2 S2 e2 => ⟨H1, e.trans e2, _, S2, q1⟩) fun _ _ z => z) (hs _ _ _)
noncomputable def wAdd1 (o v : V) : Wp V := fun H Q => match o, v with | .int a, .int b => Q (.int (a + b)) H | _, _ => False
theorem wAdd1_i {a b : Int} {H : AH} {Q : V → AH → Prop} : wAdd1 (.int a) (.int b) H Q = Q (.int (a + b)) H := rfl
theorem wAdd1_inv {x y : V} {H : AH} {Q : V → AH → Prop} (w : wAdd1 x y H Q) : ∃ i j, x = .int i ∧ y = .int j ∧ Q (.int (i + j)) H := by
  cases x with
  | int i =>
    cases y with
    | int j => exact ⟨i, j, rfl, rfl, w⟩
    | _ => exact False.elim w
  | _ => exact False.elim w
theorem rv_iadd : RV2 c d nm (inplaceOp .Add) wAdd1 := by
  intro A rm L G l H s Q x y u v S rx ry w
  refine zC5 fun _ hk => ?_
  obtain ⟨i, j, rfl, rfl, w⟩ := wAdd1_inv w
  obtain ⟨t, rfl⟩ := rx
  obtain ⟨t', rfl⟩ := ry
  exact hk (AutoIntOps.iadd_0 (PV.mk (x := .int _) ⟨_, rfl⟩ S.tok Ext.tok w))
noncomputable def wAug (i : Nat) (w : Ls → Wp V) (l : Ls) : Wp Fl := fun H Q => zC3 (zB1 i) w wAdd1 l H (kAsg l i Q)
theorem rs_aug {x pos' value pos} {w : Ls → Wp V} (i : Nat) (h : RE c d qn sc nm value w) (hi : autoParam (nm[i]? = some x) auK) (hnd : autoParam (nm.Nodup) auA) (hx : autoParam (sc.names.lookup x = some .local) auK) (hk : autoParam (sc.kind = .function) auK) :
    RS c d qn sc nm (.AugAssign (.Name x pos') .Add value pos) (wAug i w) := by
  intro A rm L a cd G l H s Q S q
  refine wpAny_AugAssign_Name ?_
  refine zC5 fun _ hh => ?_
  obtain ⟨m, hn, hl⟩ := S.fr
  obtain ⟨X, hX, q⟩ := wLoc_inv q
  obtain ⟨v, hv, hr⟩ := hl.get hi hX
  refine hh ?_
  refine wpAny_loadName_local (env := envOf qn sc L a cd) hk hx hn hv ?_
  refine wpAny_mono (h A rm L a cd G l H s _ S q) (fun v2 s1 hz2 => ?_) fun _ _ z => z
  obtain ⟨Y, H1, r1, S1, e, q1⟩ := hz2
  refine wpAny_mono (rv_iadd (d := d) A rm L G l H1 s1 _ X Y v v2 S1 (hr.tk e.tk) r1 q1) (fun v3 s3 hz2 => ?_) fun _ _ z => z
  obtain ⟨Z, H3, r3, S3, e3, q3⟩ := hz2
  exact store_ i S3 r3 hi hnd hx hk fun s4 S4 e4 => ⟨H3, (e.trans e3).trans e4, _, S4, q3⟩
noncomputable def kRet (Q : Fl → AH → Prop) (x : V) (H : AH) : Prop := Q (.ret x) H
noncomputable def wRet (w : Ls → Wp V) (l : Ls) : Wp Fl := fun H Q => w l H (kRet Q)
theorem zD4 {e pos} {w : Ls → Wp V} (h : RE c d qn sc nm e w) : RS c d qn sc nm (.Return (some e) pos) (wRet w) := by
  intro A rm L a cd G l H s Q S q
  exact wpAny_Return_some (wpAny_mono (h A rm L a cd G l H s _ S q) (fun v s1 ⟨X, H1, r, S1, e, q1⟩ => ⟨H1, e, X, r, S1.hs, q1⟩) fun _ _ z => z)
noncomputable def wRet0 (l : Ls) : Wp Fl := fun H Q => Q (.ret .none) H
theorem rs_ret0 {pos} : RS c d qn sc nm (.Return none pos) wRet0 := fun A rm L a cd G l H s Q S q => wpAny_Return_none ⟨H, Ext.refl _, .none, rfl, S.hs, q⟩
noncomputable def wCont (l : Ls) : Wp Fl := fun H Q => Q (.cont l) H
theorem rs_cont {pos} : RS c d qn sc nm (.Continue pos) wCont := fun A rm L a cd G l H s Q S q => wpAny_Continue ⟨H, Ext.refl _, l, S, q⟩
noncomputable def wOff (l : Ls) : Wp Fl := fun H Q => False
theorem rs_off {st} : RS c d qn sc nm st wOff := fun A rm L a cd G l H s Q S q => q.elim
noncomputable def kDrop (l : Ls) (Q : Fl → AH → Prop) (x : V) (H : AH) : Prop := match x with | .none => Q (.next l) H | .int _ => Q (.next l) H | _ => False
theorem kDrop_n {l : Ls} {Q : Fl → AH → Prop} {H : AH} : kDrop l Q .none H = Q (.next l) H := rfl
theorem kDrop_i {l : Ls} {Q : Fl → AH → Prop} {H : AH} {i : Int} : kDrop l Q (.int i) H = Q (.next l) H := rfl
noncomputable def zG1 (w : Ls → Wp V) (l : Ls) : Wp Fl := fun H Q => w l H (kDrop l Q)
theorem zG6 {e pos} {w : Ls → Wp V} (h : RE c d qn sc nm e w) (hi : autoParam (∀ L a cd, interactive (envOf qn sc L a cd) = false) auI) (hs : autoParam (∀ L a cd, swapsWith e none pos.line (envOf qn sc L a cd) = pure false) auI) :
    RS c d qn sc nm (.Expr e pos) (zG1 w) := by
  intro A rm L a cd G l H s Q S q
  refine wpAny_Expr (wpAny_mono (h A rm L a cd G l H s _ S q) (fun v s1 hz2 => ?_) fun _ _ z => z) (hi _ _ _) (hs _ _ _)
  obtain ⟨X, H1, r, S1, e, q1⟩ := hz2
  cases X with
  | none => rw [show v = _ from r]; exact ⟨H1, e, l, S1, q1⟩
  | int _ => obtain ⟨t, rfl⟩ := r; exact ⟨H1, e, l, S1, q1⟩
  | _ => exact q1.elim
noncomputable def zB6 (l : Ls) : Wp Fl := fun H Q => Q (.next l) H
noncomputable def kSeq (w2 : Ls → Wp Fl) (Q : Fl → AH → Prop) (f : Fl) (H : AH) : Prop := match f with | .next l => w2 l H Q | f => Q f H
theorem kSeq_n {w2 : Ls → Wp Fl} {l : Ls} {Q : Fl → AH → Prop} {H : AH} : kSeq w2 Q (.next l) H = w2 l H Q := rfl
theorem kSeq_c {w2 : Ls → Wp Fl} {l : Ls} {Q : Fl → AH → Prop} {H : AH} : kSeq w2 Q (.cont l) H = Q (.cont l) H := rfl
theorem kSeq_b {w2 : Ls → Wp Fl} {l : Ls} {Q : Fl → AH → Prop} {H : AH} : kSeq w2 Q (.brk l) H = Q (.brk l) H := rfl
theorem kSeq_r {w2 : Ls → Wp Fl} {l : Ls} {Q : Fl → AH → Prop} {H : AH} {x : V} : kSeq w2 Q (.ret x) H = Q (.ret x) H := rfl
noncomputable def zB3 (w1 w2 : Ls → Wp Fl) (l : Ls) : Wp Fl := fun H Q => w1 l H (kSeq w2 Q)
theorem wSeq_ap {w1 w2 : Ls → Wp Fl} {l : Ls} {H : AH} {Q : Fl → AH → Prop} : zB3 w1 w2 l H Q = w1 l H (kSeq w2 Q) := rfl
theorem loc0 {x : V} {l : Ls} {H : AH} {Q : V → AH → Prop} : zB1 0 (some x :: l) H Q = Q x H := rfl
theorem locS {i : Nat} {y : Option V} {l : Ls} {H : AH} {Q : V → AH → Prop} : zB1 (i + 1) (y :: l) H Q = zB1 i l H Q := rfl
theorem zA6 : RSs c d qn sc nm [] zB6 := fun A rm L a cd G l H s Q S q => wpAny_execs_nil ⟨H, Ext.refl _, l, S, q⟩
theorem zA1 {st rest} {w1 w2 : Ls → Wp Fl} (h1 : RS c d qn sc nm st w1) (h2 : RSs c d qn sc nm rest w2) : RSs c d qn sc nm (st :: rest) (zB3 w1 w2) := by
  intro A rm L a cd G l H s Q S q
  refine wpAny_execs_cons (wpAny_mono (h1 A rm L a cd G l H s _ S q) (fun f s1 p => ?_) fun _ _ z => z)
  obtain ⟨H1, e, p⟩ := p
  cases f with
  | next => obtain ⟨l', S1, q1⟩ := p; exact wpAny_mono (h2 A rm L a cd G l' H1 s1 _ S1 q1) (fun _ _ p => p.trans e) fun _ _ z => z
  | brk => exact ⟨H1, e, p⟩
  | cont => exact ⟨H1, e, p⟩
  | ret v => exact ⟨H1, e, p⟩
noncomputable def kIfS (w1 w2 : Ls → Wp Fl) (l : Ls) (Q : Fl → AH → Prop) (b : Bool) (H : AH) : Prop := match b with | true => w1 l H Q | false => w2 l H Q
theorem kIfS_t {w1 w2 : Ls → Wp Fl} {l : Ls} {Q : Fl → AH → Prop} {H : AH} : kIfS w1 w2 l Q true H = w1 l H Q := rfl
theorem kIfS_f {w1 w2 : Ls → Wp Fl} {l : Ls} {Q : Fl → AH → Prop} {H : AH} : kIfS w1 w2 l Q false H = w2 l H Q := rfl
noncomputable def zG3 (t : Ls → Wp Bool) (w1 w2 : Ls → Wp Fl) (l : Ls) : Wp Fl := fun H Q => t l H (kIfS w1 w2 l Q)
theorem zE5 {test body orelse pos} {t : Ls → Wp Bool} {w1 w2 : Ls → Wp Fl} (ht : RT c d qn sc nm test t) (h1 : RSs c d qn sc nm body w1) (h2 : RSs c d qn sc nm orelse w2) : RS c d qn sc nm (.If test body orelse pos) (zG3 t w1 w2) := by
  intro A rm L a cd G l H s Q S q
  refine wpAny_If (wpAny_mono (ht A rm L a cd G l H s _ S q) (fun b s1 hz2 => ?_) fun _ _ z => z)
  obtain ⟨H1, S1, e, q1⟩ := hz2
  cases b with
  | true => exact wpAny_mono (h1 A rm L a cd G l H1 s1 _ S1 q1) (fun _ _ p => p.trans e) fun _ _ z => z
  | false => exact wpAny_mono (h2 A rm L a cd G l H1 s1 _ S1 q1) (fun _ _ p => p.trans e) fun _ _ z => z
noncomputable def wPutA (name : Str) (x v : V) : Wp Unit := fun H Q => match x with
  | .ref a => match H a with
    | some (.inst C dd fs) => attrHas C name = true ∧ Q () (H.set a (.inst C dd (fput fs name v)))
    | _ => False
  | _ => False
theorem put_at {name : Str} {a C d : Addr} {fs : List (Str × V)} {v : V} {H : AH} {Q : Unit → AH → Prop} (h : H a = some (.inst C d fs)) (hn : attrHas C name = true) : wPutA name (.ref a) v H Q = Q () (H.set a (.inst C d (fput fs name v))) := by
  unfold wPutA; dsimp only; rw [h]; exact propext ⟨And.right, fun q => ⟨hn, q⟩⟩
inductive PU (c : Cx) (G : Gd) (L : Addr) (nm : List Str) (l : Ls) (s : Shared) (Q : Unit → AH → Prop) (u : Unit) (s' : Shared) : Prop
  | of : ∀ H', (Sm c G L nm l H' s') → (Ext s s') → (Q () H') → PU c G L nm l s Q u s'
set_option tactic.hygienic true in
theorem put_attr {A} {L G l H s Q x u y v} {name : Str} (S : Sm c G L nm l H s) (rx : Re s.heap x u) (ry : Re s.heap y v) (w : wPutA name x y H Q) : wpAny c.M A (setAttr u name v) (PU c G L nm l s Q) NoE s := by
  cases x <;> try exact False.elim w
  · rename_i a
    rw [show u = _ from rx]
    · refine zC5 fun _ hk => ?_
      obtain ⟨C, dd, fs, hx, hA, q⟩ := ao_inst (F := fun C dd fs => attrHas C name = true ∧ Q () (H.set a (.inst C dd (fput fs name y)))) w
      obtain ⟨m, g, N, rn, hf⟩ := S.hs.obj a _ hx
      obtain ⟨o, ho, I⟩ := instAt g N.ns
      obtain ⟨p1, p2, p3, p4, p5, p6⟩ := attr_parts (c.attr hA)
      have X : c.K.In ({ s with toks := s.toks + 1 } : Shared).heap := S.hs.X
      refine hk ?_
      refine set_plain S.hs.X I p4 (osa_open X I p5 p6 fun b => ?_)
      obtain ⟨cd, hc, hd'⟩ := any_some p2
      refine wpAny_bind (wpAny_pure (wpAny_bind (wpAny_bind (wpAny_loadPart g (wpAny_bind ((looks_clsIn X hc).here ?_))))))
      simp only [hd']
      refine wpAny_pure (a := some dd) (wpAny_bind (wpAny_pure (wpAny_bind ?_)))
      refine wpAny_nsSet1 N fun h' N' k => ?_
      refine zC5 fun _ hk => ?_
      obtain ⟨obd, ed, ntd⟩ := ns_nt N.ns
      have hc : ∀ z, (fput fs name y).lookup z ≠ none → attrHas C z = true := fun z hz => by
        rw [fput_lookup] at hz
        by_cases e : z = name
        · rw [e]; exact hA
        · rw [if_neg e] at hz; exact hf z hz
      have wi : Within (fun x => if x = name then some v else m x) (attrL.map (·.2)) := fun z hz => by
        have : attrHas C z = true := by
          by_cases e : z = name
          · rw [e]; exact hA
          · dsimp only at hz
            rw [if_neg e] at hz
            refine hf z fun q => hz ?_
            have := rn z
            rw [q] at this; exact this
        obtain ⟨p, hp, e⟩ := List.any_eq_true.mp this
        simp only [Bool.and_eq_true, beq_iff_eq] at e
        exact List.mem_map.mpr ⟨p, hp, e.2⟩
      obtain ⟨ob', es', n', e1', e2', e3'⟩ := N'.count wi
      refine hk ?_
      refine wpAny_bind (wpAny_lookBehind e1' (by rw [e2']; exact pastItsLine_dict (Nat.le_trans e3' (by rw [sizeLine_eq]; decide))) (wpAny_pure ?_))
      have t := tk_sameBut k ed ntd
      obtain ⟨S', _⟩ := S.updI (s' := { s with heap := h', toks := s.toks + 1 + 1 }) (fs' := fput fs name y) hx k N' ((rn.tk t).put (ry.tk t)) hc
      exact ⟨_, S', ⟨t, rfl, rfl⟩, q⟩
noncomputable def kNx (l : Ls) (Q : Fl → AH → Prop) (_ : Unit) (H : AH) : Prop := Q (.next l) H
noncomputable def kAA2 (name : Str) (v : V) (l : Ls) (Q : Fl → AH → Prop) (x : V) (H : AH) : Prop := wPutA name x v H (kNx l Q)
noncomputable def kAA1 (w2 : Ls → Wp V) (name : Str) (l : Ls) (Q : Fl → AH → Prop) (v : V) (H : AH) : Prop := w2 l H (kAA2 name v l Q)
noncomputable def wAsgA (w1 w2 : Ls → Wp V) (name : Str) (l : Ls) : Wp Fl := fun H Q => w1 l H (kAA1 w2 name l Q)
theorem rs_asgA {o attr pos' value pos} {w1 w2 : Ls → Wp V} (h1 : RE c d qn sc nm value w1) (h2 : RE c d qn sc nm o w2) (hs : autoParam (∀ L a cd, swapsWith value (some (.Attribute o attr pos')) pos.line (envOf qn sc L a cd) = pure false) auI) :
    RS c d qn sc nm (.Assign [.Attribute o attr pos'] value pos) (wAsgA w1 w2 attr) := by
  intro A rm L a cd G l H s Q S q
  refine plainObj_wpAny_Assign_Attribute (wpAny_mono (h1 A rm L a cd G l H s _ S q) (fun v s1 hz2 => ?_) fun _ _ z => z) (hs _ _ _)
  obtain ⟨X, H1, r1, S1, e1, q1⟩ := hz2
  refine wpAny_mono (h2 A rm L a cd G l H1 s1 _ S1 q1) (fun u s2 hz2 => ?_) fun _ _ z => z
  obtain ⟨Y, H2, r2, S2, e2, q2⟩ := hz2
  exact wpAny_mono (put_attr S2 r2 (r1.tk e2.tk) q2) (fun _ s3 ⟨H3, S3, e3, q3⟩ => ⟨H3, (e1.trans e2).trans e3, l, S3, q3⟩) fun _ _ z => z
noncomputable def kGA4 (name : Str) (x : V) (l : Ls) (Q : Fl → AH → Prop) (n : V) (H : AH) : Prop := wPutA name x n H (kNx l Q)
noncomputable def kGA3 (name : Str) (x o : V) (l : Ls) (Q : Fl → AH → Prop) (v : V) (H : AH) : Prop := wAdd1 o v H (kGA4 name x l Q)
noncomputable def kGA2 (name : Str) (x : V) (w2 : Ls → Wp V) (l : Ls) (Q : Fl → AH → Prop) (o : V) (H : AH) : Prop := w2 l H (kGA3 name x o l Q)
noncomputable def kGA1 (name : Str) (w2 : Ls → Wp V) (l : Ls) (Q : Fl → AH → Prop) (x : V) (H : AH) : Prop := zJ3 name x H (kGA2 name x w2 l Q)
noncomputable def wAugA (w1 w2 : Ls → Wp V) (name : Str) (l : Ls) : Wp Fl := fun H Q => w1 l H (kGA1 name w2 l Q)
theorem rs_augA {o attr pos' value pos} {w1 w2 : Ls → Wp V} (h1 : RE c d qn sc nm o w1) (h2 : RE c d qn sc nm value w2) :
    RS c d qn sc nm (.AugAssign (.Attribute o attr pos') .Add value pos) (wAugA w1 w2 attr) := by
  intro A rm L a cd G l H s Q S q
  refine wpAny_AugAssign_AttributeAny (wpAny_mono (h1 A rm L a cd G l H s _ S q) (fun u s1 hz2 => ?_) fun _ _ z => z)
  obtain ⟨X, H1, r1, S1, e1, q1⟩ := hz2
  refine wpAny_mono (zF2 (d := d) A rm L G l H1 s1 _ X u S1 r1 q1) (fun o s2 hz2 => ?_) fun _ _ z => z
  obtain ⟨O, H2, r2, S2, e2, q2⟩ := hz2
  refine wpAny_mono (h2 A rm L a cd G l H2 s2 _ S2 q2) (fun v s3 hz2 => ?_) fun _ _ z => z
  obtain ⟨Y, H3, r3, S3, e3, q3⟩ := hz2
  refine wpAny_mono (rv_iadd (d := d) A rm L G l H3 s3 _ O Y o v S3 (r2.tk e3.tk) r3 q3) (fun n s4 hz2 => ?_) fun _ _ z => z
  obtain ⟨N, H4, r4, S4, e4, q4⟩ := hz2
  exact wpAny_mono (put_attr S4 (r1.tk ((e2.trans e3).trans e4).tk) r4 q4) (fun _ s5 ⟨H5, S5, e5, q5⟩ => ⟨H5, (e1.trans ((e2.trans e3).trans e4)).trans e5, l, S5, q5⟩) fun _ _ z => z
noncomputable def wPutI (x y v : V) : Wp Unit := fun H Q => match x, y with
  | .ref a, .int i => match H a with
    | some (.list xs) => (0 ≤ i ∧ i < 1000000 ∧ i.toNat < xs.length) ∧ Q () (H.set a (.list (xs.set i.toNat v)))
    | some (.dictE _) => ∀ ep, Q () (H.set a (.dictI ep [(i, v)]))
    | some (.dictI ep es) => es.length ≤ 1000000 ∧ ∀ ep, Q () (H.set a (.dictI ep (dput es i v)))
    | _ => False
  | .ref a, .str i => match H a with
    | some (.dictE _) => Q () (H.set a (.dictS [(i, v)]))
    | some (.dictS es) => es.length ≤ 1000000 ∧ Q () (H.set a (.dictS (dput es i v)))
    | _ => False
  | .ref a, .tup [.int i, .int j] => match H a, v with
    | some (.dictE _), .int _ => Q () (H.set a (.dictT 1))
    | some (.dictT n), .int _ => n ≤ 1000 ∧ Q () (H.set a (.dictT (n + 1)))
    | _, _ => False
  | _, _ => False
theorem tupKey {prog w} {h : Heap} {i j : Int} {k : Value} (r : Re h (.tup [.int i, .int j]) k) : ∃ t, k = .ref t ∧ (tupleKind (intKind prog w)).is h [i, j] t := by
  refine zC5 fun _ hk => ?_
  obtain ⟨t, its, rfl, ⟨o, ho, hc, n, hd⟩, rl⟩ := r
  obtain ⟨u, vs, e1, ⟨t1, rfl⟩, w', vs', e2, ⟨t2, rfl⟩, e3⟩ := rl
  rw [show vs' = _ from e3] at e2
  rw [e2] at e1
  refine hk ?_
  exact ⟨t, rfl, o, its, n, ho, hc, hd, by rw [e1]; exact .cons (intKind_is _ _ _ _) (.cons (intKind_is _ _ _ _) .nil)⟩
theorem DictT_of {prog w} {h : Heap} {a : Addr} {n : Nat} (e : h.get? a = some { cls := .type "dict", data := .dict #[] n }) : h.DictOfH (tupleKind (intKind prog w)) a [] :=
  ⟨_, #[], n, e, ⟨rfl, rfl, rfl⟩, rfl, rfl, fun _ he => by simp at he, List.nodup_nil⟩
inductive PutI (H : AH) (v : V) (Q : Unit → AH → Prop) : V → V → Prop
  | list : ∀ a i xs, H a = some (.list xs) → 0 ≤ i → i < 1000000 → i.toNat < xs.length → Q () (H.set a (.list (xs.set i.toNat v))) → PutI H v Q (.ref a) (.int i)
  | intE : ∀ a i n, H a = some (.dictE n) → (∀ ep, Q () (H.set a (.dictI ep [(i, v)]))) → PutI H v Q (.ref a) (.int i)
  | int : ∀ a i ep es, H a = some (.dictI ep es) → es.length ≤ 1000000 → (∀ ep, Q () (H.set a (.dictI ep (dput es i v)))) → PutI H v Q (.ref a) (.int i)
  | strE : ∀ a i n, H a = some (.dictE n) → Q () (H.set a (.dictS [(i, v)])) → PutI H v Q (.ref a) (.str i)
  | str : ∀ a i es, H a = some (.dictS es) → es.length ≤ 1000000 → Q () (H.set a (.dictS (dput es i v))) → PutI H v Q (.ref a) (.str i)
  | tupE : ∀ a i j z n, v = .int z → H a = some (.dictE n) → Q () (H.set a (.dictT 1)) → PutI H v Q (.ref a) (.tup [.int i, .int j])
  | tup : ∀ a i j z n, v = .int z → H a = some (.dictT n) → n ≤ 1000 → Q () (H.set a (.dictT (n + 1))) → PutI H v Q (.ref a) (.tup [.int i, .int j])
set_option tactic.hygienic true in
theorem puti_inv {x y v : V} {H : AH} {Q : Unit → AH → Prop} (w : wPutI x y v H Q) : PutI H v Q x y := by
  cases x <;> try exact False.elim w
  rename_i a
  cases y <;> try exact False.elim w
  · rename_i i
    unfold wPutI at w
    dsimp only at w
    generalize hx : H a = o at w
    cases o with
    | none => exact False.elim w
    | some o => cases o <;> first | exact .list _ _ _ hx w.1.1 w.1.2.1 w.1.2.2 w.2 | exact .intE _ _ _ hx w | exact .int _ _ _ _ hx w.1 w.2 | exact False.elim w
  · rename_i i
    unfold wPutI at w
    dsimp only at w
    generalize hx : H a = o at w
    cases o with
    | none => exact False.elim w
    | some o => cases o <;> first | exact .strE _ _ _ hx w | exact .str _ _ _ hx w.1 w.2 | exact False.elim w
  · rename_i ks
    rcases ks with _ | ⟨k1, ks⟩
    · exact False.elim w
    cases k1 <;> try exact False.elim w
    rcases ks with _ | ⟨k2, ks⟩
    · exact False.elim w
    cases k2 <;> try exact False.elim w
    rcases ks with _ | ⟨k3, ks⟩
    rotate_left
    · exact False.elim w
    unfold wPutI at w
    dsimp only at w
    generalize hx : H a = o at w
    cases o with
    | none => exact False.elim w
    | some o =>
      cases o <;> try exact False.elim w
      all_goals cases v <;> first | exact .tupE _ _ _ _ _ rfl hx w | exact .tup _ _ _ _ _ rfl hx w.1 w.2 | exact False.elim w
theorem put_item {A} (rm : Room A d) {L G l H s Q x u y k z v} (S : Sm c G L nm l H s) (rx : Re s.heap x u) (ry : Re s.heap y k) (rz : Re s.heap z v) (w : wPutI x y z H Q) : wpAny c.M A (setItem u k v) (PU c G L nm l s Q) NoE s := by
  have dI : ∀ {a : Addr} {o : AO} {es : List (Int × V)} {kvs} {i : Int} {t : Tok}, H a = some o → (∀ C d fs, o ≠ .inst C d fs) → (∀ b, o ≠ .own b) → o.isD = true → s.heap.DictOf (intKind c.prog c.w) a kvs → ReP s.heap es kvs → es.length ≤ 1000000 → (∀ ep, Q () (H.set a (.dictI ep (dput es i z)))) →
      wpAny c.M A (setItem (.ref a) (.int i t) v) (PU c G L nm l s Q) NoE s := by
    intro a o es kvs i t hx hi hw hD g rp hz q
    refine wpAny_setItem_pairs (intKind_is _ _ i t) g (fun h' g' k' => ?_) (line_big (by rw [rp.length]; exact hz))
    obtain ⟨ob, eo, nt⟩ := (S.hs.obj a _ hx).get
    have t := tk_sameBut k' eo nt
    obtain ⟨ep, g'⟩ := g'.dictAt
    obtain ⟨S', _⟩ := S.upd (s' := { s with heap := h', toks := s.toks + 1 }) (o' := .dictI ep (dput es i z)) hx k' ⟨_, g', (rp.tk t).put (rz.tk t)⟩ hi hw (hd := by rw [hD, Bool.or_true])
    exact ⟨_, S', ⟨t, rfl, rfl⟩, q ep⟩
  have dS : ∀ {a : Addr} {o : AO} {es : List (Str × V)} {kvs} {i : Str} {t : Tok}, H a = some o → (∀ C d fs, o ≠ .inst C d fs) → (∀ b, o ≠ .own b) → o.isD = true → s.heap.DictOf (strKind c.prog c.w) a kvs → ReP s.heap es kvs → es.length ≤ 1000000 → Q () (H.set a (.dictS (dput es i z))) →
      wpAny c.M A (setItem (.ref a) (.str i t) v) (PU c G L nm l s Q) NoE s := by
    intro a o es kvs i t hx hi hw hD g rp hz q
    refine wpAny_setItem_pairs (strKind_is _ _ i t) g (fun h' g' k' => ?_) (line_big (by rw [rp.length]; exact hz))
    refine zC5 fun _ hk => ?_
    obtain ⟨ob, eo, nt⟩ := (S.hs.obj a _ hx).get
    have t := tk_sameBut k' eo nt
    obtain ⟨S', _⟩ := S.upd (s' := { s with heap := h', toks := s.toks + 1 }) (o' := .dictS (dput es i z)) hx k' ⟨_, g', (rp.tk t).put (rz.tk t)⟩ hi hw (hd := by rw [hD, Bool.or_true])
    refine hk ?_
    exact ⟨_, S', ⟨t, rfl, rfl⟩, q⟩
  have dT : ∀ {a : Addr} {i j : Int}, Re s.heap (.ref a) u → Re s.heap (.tup [.int i, .int j]) k → ∀ {o : AO} {xs : List (List Int × Addr × Value)} {n : Nat} {zi : Int} {zt : Tok}, H a = some o → (∀ C d fs, o ≠ .inst C d fs) → (∀ b, o ≠ .own b) → o.isD = true → s.heap.DictOfH (tupleKind (intKind c.prog c.w)) a xs → (∀ x ∈ xs, ∃ i t, x.2.2 = .int i t) → xs.length ≤ n → n ≤ 1000 → v = .int zi zt →
        Q () (H.set a (.dictT (n + 1))) → wpAny c.M A (setItem u k v) (PU c G L nm l s Q) NoE s := by
    intro a i j rx ry o xs n zi zt hx hi hw hD g hv hl hn hz q
    rw [show u = _ from rx]
    obtain ⟨t, rfl, hk⟩ := tupKey (prog := c.prog) (w := c.w) ry
    have room : (tupleKind (intKind c.prog c.w)).room A.in1 := tupleKind_room_in1 (by have := rm.eq64; lia)
    refine wpAny_setItem_heap room hk g (fun h' g' k' => ?_) (line_big (by lia))
    obtain ⟨ob, eo, nt⟩ := (S.hs.obj a _ hx).get
    have t' := tk_sameBut k' eo nt
    have ho : OR c h' a (.dictT (n + 1)) := by
      refine ⟨_, g', ?_, ?_⟩
      · intro x hx
        unfold storedH at hx
        split at hx
        · obtain ⟨y, hy, rfl⟩ := List.mem_map.mp hx
          unfold putAt
          split
          · exact ⟨zi, zt, hz⟩
          · exact hv y hy
        · rcases List.mem_append.mp hx with h | h
          · exact hv x h
          · rw [List.mem_singleton.mp h]; exact ⟨zi, zt, hz⟩
      · unfold storedH
        split
        · rw [List.length_map]; lia
        · rw [List.length_append]; simp; lia
    obtain ⟨S', _⟩ := S.upd (s' := { s with heap := h', toks := s.toks + (tupleKind (intKind c.prog c.w)).draws [i, j] }) hx k' ho hi hw (hd := by rw [hD, Bool.or_true])
    exact ⟨_, S', ⟨t', rfl, rfl⟩, q⟩
  replace w := puti_inv w
  cases w with
  | list a i xs hx h0 h1 h2 q =>
    · rw [show u = _ from rx]
      refine zC5 fun _ hk => ?_
      obtain ⟨t, rfl⟩ := ry
      obtain ⟨vs, n, g, rl⟩ := S.hs.obj a _ hx
      have hl := rl.length
      simp only [Array.length_toList] at hl
      refine hk ?_
      refine setItem_list_at g h0 (by lia) (by lia) fun h' n' g' k' => ?_
      have t := tk_sameBut k' g (NT.of_cls (by simp))
      have ho : OR c h' a (.list (xs.set i.toNat z)) := ⟨_, n', g', by rw [Array.toList_setIfInBounds]; exact ReL.set (rl.tk t) (rz.tk t)⟩
      obtain ⟨S', _⟩ := S.upd (s' := { s with heap := h' }) hx k' ho
      exact ⟨_, S', ⟨t, rfl, rfl⟩, q⟩
  | intE a i n hx w =>
    · rw [show u = _ from rx]
      obtain ⟨t, rfl⟩ := ry
      have g := S.hs.obj a _ hx
      exact dI (es := []) hx (by intro _ _ _ q; cases q) (by intro _ q; cases q) rfl (DictE_of _ g) rfl (by simp) w
  | int a i ep es hx w1 w2 =>
    · rw [show u = _ from rx]
      obtain ⟨t, rfl⟩ := ry
      obtain ⟨kvs, g, rp⟩ := S.hs.obj a _ hx
      exact dI hx (by intro _ _ _ q; injection q) (by intro _ q; injection q) rfl g.dictOf rp w1 w2
  | strE a i n hx w =>
    · rw [show u = _ from rx]
      obtain ⟨t, rfl⟩ := ry
      have g := S.hs.obj a _ hx
      exact dS (es := []) hx (by intro _ _ _ q; cases q) (by intro _ q; cases q) rfl (DictE_of _ g) rfl (by simp) w
  | str a i es hx w1 w2 =>
    · rw [show u = _ from rx]
      refine zC5 fun _ hk => ?_
      obtain ⟨t, rfl⟩ := ry
      obtain ⟨kvs, g, rp⟩ := S.hs.obj a _ hx
      refine hk ?_
      exact dS hx (by intro _ _ _ q; injection q) (by intro _ q; injection q) rfl g rp w1 w2
  | tupE a i j zi n e hx w =>
    subst e
    obtain ⟨zt, rfl⟩ := rz
    exact dT rx ry (n := 0) hx (by intro _ _ _ q; injection q) (by intro _ q; injection q) rfl (DictT_of (S.hs.obj a _ hx)) (by simp) (by simp) (by lia) rfl w
  | tup a i j zi n e hx w1 w2 =>
    subst e
    obtain ⟨zt, rfl⟩ := rz
    obtain ⟨xs, g, h1, h2⟩ := S.hs.obj a _ hx
    exact dT rx ry hx (by intro _ _ _ q; injection q) (by intro _ q; injection q) rfl g h1 h2 w1 rfl w2
noncomputable def kAI3 (v x : V) (l : Ls) (Q : Fl → AH → Prop) (y : V) (H : AH) : Prop := wPutI x y v H (kNx l Q)
noncomputable def kAI2 (w3 : Ls → Wp V) (v : V) (l : Ls) (Q : Fl → AH → Prop) (x : V) (H : AH) : Prop := w3 l H (kAI3 v x l Q)
noncomputable def kAI1 (w2 w3 : Ls → Wp V) (l : Ls) (Q : Fl → AH → Prop) (v : V) (H : AH) : Prop := w2 l H (kAI2 w3 v l Q)
noncomputable def wAsgI (w1 w2 w3 : Ls → Wp V) (l : Ls) : Wp Fl := fun H Q => w1 l H (kAI1 w2 w3 l Q)
theorem rs_asgI {o i pos' value pos} {w1 w2 w3 : Ls → Wp V} (h1 : RE c d qn sc nm value w1) (h2 : RE c d qn sc nm o w2) (h3 : RE c d qn sc nm i w3) (hs : autoParam (∀ L a cd, swapsWith value (some (.Subscript o i pos')) pos.line (envOf qn sc L a cd) = pure false) auI) :
    RS c d qn sc nm (.Assign [.Subscript o i pos'] value pos) (wAsgI w1 w2 w3) := by
  intro A rm L a cd G l H s Q S q
  refine wpAny_Assign_Subscript (wpAny_mono (h1 A rm L a cd G l H s _ S q) (fun v s1 hz2 => ?_) fun _ _ z => z) (hs _ _ _)
  obtain ⟨X, H1, r1, S1, e1, q1⟩ := hz2
  refine wpAny_mono (h2 A rm L a cd G l H1 s1 _ S1 q1) (fun u s2 hz2 => ?_) fun _ _ z => z
  obtain ⟨Y, H2, r2, S2, e2, q2⟩ := hz2
  refine wpAny_mono (h3 A rm L a cd G l H2 s2 _ S2 q2) (fun k s3 hz2 => ?_) fun _ _ z => z
  obtain ⟨Z, H3, r3, S3, e3, q3⟩ := hz2
  exact wpAny_mono (put_item rm S3 (r2.tk e3.tk) r3 (r1.tk (e2.trans e3).tk) q3) (fun _ s4 ⟨H4, S4, e4, q4⟩ => ⟨H4, ((e1.trans e2).trans e3).trans e4, l, S4, q4⟩) fun _ _ z => z
noncomputable def kGI5 (x y : V) (l : Ls) (Q : Fl → AH → Prop) (n : V) (H : AH) : Prop := wPutI x y n H (kNx l Q)
noncomputable def kGI4 (x y o : V) (l : Ls) (Q : Fl → AH → Prop) (v : V) (H : AH) : Prop := wAdd1 o v H (kGI5 x y l Q)
noncomputable def kGI3 (w3 : Ls → Wp V) (x y : V) (l : Ls) (Q : Fl → AH → Prop) (o : V) (H : AH) : Prop := w3 l H (kGI4 x y o l Q)
noncomputable def kGI2 (w3 : Ls → Wp V) (x : V) (l : Ls) (Q : Fl → AH → Prop) (y : V) (H : AH) : Prop := zD5 x y H (kGI3 w3 x y l Q)
noncomputable def kGI1 (w2 w3 : Ls → Wp V) (l : Ls) (Q : Fl → AH → Prop) (x : V) (H : AH) : Prop := w2 l H (kGI2 w3 x l Q)
noncomputable def wAugI (w1 w2 w3 : Ls → Wp V) (l : Ls) : Wp Fl := fun H Q => w1 l H (kGI1 w2 w3 l Q)
theorem rs_augI {o i pos' value pos} {w1 w2 w3 : Ls → Wp V} (h1 : RE c d qn sc nm o w1) (h2 : RE c d qn sc nm i w2) (h3 : RE c d qn sc nm value w3)
    (hi : autoParam (∀ ov iv new, augStore i ov iv new = (do holding [new, ov, iv] (setItem ov iv new); release [new, ov, iv] []; pure .next)) auI) :
    RS c d qn sc nm (.AugAssign (.Subscript o i pos') .Add value pos) (wAugI w1 w2 w3) := by
  intro A rm L a cd G l H s Q S q
  refine wpAny_AugAssign_SubscriptAny (wpAny_mono (h1 A rm L a cd G l H s _ S q) (fun u s1 hz2 => ?_) fun _ _ z => z) hi
  obtain ⟨X, H1, r1, S1, e1, q1⟩ := hz2
  refine wpAny_mono (h2 A rm L a cd G l H1 s1 _ S1 q1) (fun k s2 hz2 => ?_) fun _ _ z => z
  obtain ⟨Y, H2, r2, S2, e2, q2⟩ := hz2
  refine wpAny_mono (rv_getItem (d := d) A rm L G l H2 s2 _ X Y u k S2 (r1.tk e2.tk) r2 q2) (fun o s3 hz2 => ?_) fun _ _ z => z
  obtain ⟨O, H3, r3, S3, e3, q3⟩ := hz2
  refine wpAny_mono (h3 A rm L a cd G l H3 s3 _ S3 q3) (fun v s4 hz2 => ?_) fun _ _ z => z
  obtain ⟨W, H4, r4, S4, e4, q4⟩ := hz2
  refine wpAny_mono (rv_iadd (d := d) A rm L G l H4 s4 _ O W o v S4 (r3.tk e4.tk) r4 q4) (fun n s5 hz2 => ?_) fun _ _ z => z
  obtain ⟨N, H5, r5, S5, e5, q5⟩ := hz2
  exact wpAny_mono (put_item rm S5 (r1.tk (((e2.trans e3).trans e4).trans e5).tk) (r2.tk ((e3.trans e4).trans e5).tk) r5 q5) (fun _ s6 ⟨H6, S6, e6, q6⟩ => ⟨H6, (e1.trans (((e2.trans e3).trans e4).trans e5)).trans e6, l, S6, q6⟩) fun _ _ z => z
end
end
section
noncomputable def Gd.set (G : Gd) (a : Addr) (o : Obj) : Gd := fun b => if b = a then some o else G b
theorem Gd.set_self (G : Gd) (a : Addr) (o : Obj) : (G.set a o) a = some o := by simp [Gd.set]
theorem Gd.set_ne (G : Gd) {a b : Addr} (o : Obj) (h : b ≠ a) : (G.set a o) b = G b := by simp [Gd.set, h]
theorem Gd.set_none {G : Gd} {a b : Addr} {o : Obj} (h : (G.set a o) b = none) : b ≠ a ∧ G b = none := by
  unfold Gd.set at h
  split at h
  · injection h
  · exact ⟨‹_›, h⟩
theorem HS.guard {c : Cx} {G H s} (S : HS c G H s) {a : Addr} {o : Obj} (e : s.heap.get? a = some o) (hG : G a = none) (hH : H a = none) : HS c (G.set a o) H s where
  base := fun b x q => by
    rw [Gd.set_ne _ _ (fun z => by rw [z] at q; rw [S.base a x q] at hG; injection hG)]; exact S.base b x q
  prot := fun b x q => by
    by_cases z : b = a
    · subst z; rw [Gd.set_self] at q; obtain rfl := Option.some.inj q; exact e
    · rw [Gd.set_ne _ _ z] at q; exact S.prot b x q
  obj := S.obj
  disj := fun b q => by
    rw [Gd.set_ne _ _ (fun z => by rw [z, hH] at q; exact q rfl)]; exact S.disj b q
  wf := S.wf
  ns := S.ns
theorem HS.unguard {c : Cx} {G H H₀ s s₀} {a : Addr} {o : Obj} (S : HS c (G.set a o) H s) (S₀ : HS c G H₀ s₀) (hG : G a = none) : HS c G H s ∧ s.heap.get? a = some o ∧ H a = none := by
  refine ⟨⟨S₀.base, fun b x q => S.prot b x ?_, S.obj, fun b q => (Gd.set_none (S.disj b q)).2, S.wf, S.ns⟩, S.prot a o (Gd.set_self ..), ?_⟩
  · rw [Gd.set_ne _ _ (fun z => by rw [z, hG] at q; injection q)]; exact q
  · cases z : H a with
    | none => rfl
    | some x => have := S.disj a (by rw [z]; simp); rw [Gd.set_self] at this; injection this
theorem ReP.getKey {K : Type} {h : Heap} : ∀ {es : List (K × V)} {kvs : List (K × Value)} {i : Nat} {p : K × V}, ReP h es kvs → es[i]? = some p → ∃ v, kvs[i]? = some (p.1, v) := by
  intro zz
  induction zz with
  | nil =>
    intro _ _ _ _ e
    simp at e
  | cons _ _ ih =>
    intro _ zz2
    cases zz2 with
    | zero =>
      rintro _ ⟨v, _, e, _, _⟩ q
      obtain rfl := Option.some.inj q; exact ⟨v, by rw [e]; rfl⟩
    | succ i =>
      intro _ hz1 q
      refine zC5 fun _ hk => ?_
      obtain ⟨v, vs', e, _, b⟩ := hz1
      refine hk ?_
      rw [e]
      exact ih (i := i) b (by simpa using q)
section
variable {c : Cx} {d : Nat} {qn : Str} {sc : Scope} {nm : List Str}
theorem Sm.guard {G L l H s} (S : Sm c G L nm l H s) {a : Addr} {o : Obj} (e : s.heap.get? a = some o) (hG : G a = none) (hH : H a = none) (hL : L ≠ a) : Sm c (G.set a o) L nm l H s :=
  ⟨S.hs.guard e hG hH, by rw [Gd.set_ne _ _ hL]; exact S.gL, S.hL, S.fr⟩
theorem Sm.unguard {G L l l₀ H H₀ s s₀} {a : Addr} {o : Obj} (S : Sm c (G.set a o) L nm l H s) (S₀ : Sm c G L nm l₀ H₀ s₀) (hG : G a = none) : Sm c G L nm l H s ∧ s.heap.get? a = some o ∧ H a = none :=
  let ⟨x, y, z⟩ := S.hs.unguard S₀.hs hG
  ⟨⟨x, S₀.gL, S.hL, S.fr⟩, y, z⟩
theorem Sm.loose {G L l H s s'} (S : Sm c G L nm l H s) {a : Addr} (hG : G a = none) (hH : H a = none) (hL : L ≠ a) (k : ∀ b o, b ≠ a → s.heap.get? b = some o → s'.heap.get? b = some o) (t : Tk s.heap s'.heap) : Sm c G L nm l H s' :=
  ⟨S.hs.loose hG hH k t, S.gL, S.hL, let ⟨m, a, b⟩ := S.fr; ⟨m, let ⟨o, es, ep, e, r⟩ := a; ⟨o, es, ep, k L o hL e, r⟩, b.tk t⟩⟩
inductive Src where
  | list (a : Addr) (xs : List V)
  | dict (a : Addr) (ep : Nat) (es : List (Int × V))
  | rng (lo hi : Int)
  | tup (xs : List V)
inductive IsSrc (H : AH) : V → Src → Prop
  | list {a xs} : H a = some (.list xs) → IsSrc H (.ref a) (.list a xs)
  | dict {a ep es} : H a = some (.dictI ep es) → IsSrc H (.ref a) (.dict a ep es)
  | dictE {a ep} : H a = some (.dictE ep) → IsSrc H (.ref a) (.dict a ep [])
  | rng {a lo hi} : H a = some (.rng lo hi) → IsSrc H (.ref a) (.rng lo hi)
  | tup {xs} : IsSrc H (.tup xs) (.tup xs)
noncomputable def Src.items : Src → List V
  | .list _ xs => xs
  | .dict _ _ es => es.map fun p => .int p.1
  | .rng lo hi => (List.range (hi - lo).toNat).map fun (k : Nat) => .int (lo + (k : Int))
  | .tup xs => xs
noncomputable def Still (H : AH) : Src → Prop
  | .list a xs => H a = some (.list xs)
  | .dict a ep es => H a = some (.dictI ep es) ∨ (es = [] ∧ H a = some (.dictE ep))
  | .rng lo hi => True
  | .tup _ => True
noncomputable def ItOk (h : Heap) (it : Addr) (i : Nat) : Src → Prop
  | .list a xs => h.IsListIter it a i
  | .dict a ep es => h.IsKeyIter it a i es.length ep
  | .rng lo hi => IsRangeIter h it (lo + (i : Int)) ((hi - lo).toNat - (i : Int)) 1
  | .tup xs => ∃ t its, IsTupIter h it t i ∧ IsTup h t its ∧ ReL h xs its.toList
theorem ItOk.obj {h : Heap} {it i} : ∀ {src : Src}, ItOk h it i src → ∃ o, h.get? it = some o ∧ NT o := by
  intro zz
  cases zz with
  | list a xs =>
    rintro ⟨o, e, q, _⟩
    exact ⟨o, e, .of_cls (by rw [q]; simp)⟩
  | dict a ep es =>
    rintro ⟨o, e, q, _⟩
    exact ⟨o, e, .of_cls (by rw [q]; simp)⟩
  | rng lo hi =>
    intro e
    exact ⟨_, e, .of_cls (by simp)⟩
  | tup xs =>
    rintro ⟨t, its, ⟨o, e, q, _⟩, _⟩
    exact ⟨o, e, .of_cls (by rw [q]; simp)⟩
theorem ItOk.at {h h' : Heap} {it i} {o : Obj} (e : h.get? it = some o) (e' : h'.get? it = some o) (t : Tk h h') : ∀ {src : Src}, ItOk h it i src → ItOk h' it i src := by
  intro zz
  cases zz with
  | list a xs =>
    rintro ⟨o', q, r⟩
    exact ⟨o', by rw [e] at q; obtain rfl := Option.some.inj q; exact e', r⟩
  | dict a ep es =>
    rintro ⟨o', q, r⟩
    exact ⟨o', by rw [e] at q; obtain rfl := Option.some.inj q; exact e', r⟩
  | rng lo hi =>
    intro q
    show _ = _; rw [show h.get? it = _ from q] at e; obtain rfl := Option.some.inj e; exact e'
  | tup xs =>
    rintro ⟨tt, its, ⟨o', q, r⟩, b, l⟩
    exact ⟨tt, its, ⟨o', by rw [e] at q; obtain rfl := Option.some.inj q; exact e', r⟩, isTup_tk b t, l.tk t⟩
noncomputable def Src.small : Src → Prop
  | .rng lo hi => (-1000000 ≤ lo ∧ lo ≤ 1000000) ∧ (-1000000 ≤ hi ∧ hi ≤ 1000000)
  | _ => True
theorem rangeSize1 (lo hi : Int) : Builtin.Range.rangeSize lo hi 1 = ((hi - lo).toNat : Int) := by
  unfold Builtin.Range.rangeSize
  rw [if_pos (by decide), Int.ediv_one]
  split <;> lia
theorem range_small {lo hi : Int} (h : (-1000000 ≤ lo ∧ lo ≤ 1000000) ∧ (-1000000 ≤ hi ∧ hi ≤ 1000000)) : Builtin.Range.small lo hi 1 = true := by
  unfold Builtin.Range.small
  rw [rangeSize1]
  have f : ∀ x : Int, -3000000 ≤ x → x ≤ 3000000 → Builtin.Range.rangeFitsLong x = true := by
    intro x h1 h2
    unfold Builtin.Range.rangeFitsLong
    simp only [Bool.and_eq_true, decide_eq_true_eq]
    lia
  rw [f lo (by lia) (by lia), f hi (by lia) (by lia), f 1 (by lia) (by lia), f _ (by lia) (by lia), if_pos (by decide), f _ (by lia) (by lia)]
  simp
theorem iter_ {A} {G L l H s x v} {src : Src} (S : Sm c G L nm l H s) (r : Re s.heap x v) (e : IsSrc H x src) (hs : src.small) {Q : Value → Shared → Prop}
    (q : ∀ it s', Sm c G L nm l H s' → Ext s s' → ItOk s'.heap it 0 src → Still H src → G it = none → H it = none → L ≠ it → Q (.ref it) s') : wpAny c.M A (pyIter v) Q NoE s := by
  have fin : ∀ o, ItOk (s.heap.push o) s.heap.objs.size 0 src → Still H src → Q (.ref s.heap.objs.size) { s with heap := s.heap.push o } := fun o i st =>
    q _ _ (S.push (tk := s.toks) o) (Ext.push (t := s.toks)) i st (S.hs.fresh (zH6 _)).2 (S.hs.fresh (zH6 _)).1 S.ne_new
  cases e with
  | list hx =>
    rw [show v = _ from r]
    obtain ⟨vs, n, g, rl⟩ := S.hs.obj _ _ hx
    exact wpAny_pyIter_list ⟨_, g, rfl, n, rfl⟩ (fin _ ⟨_, Heap.get?_push_size _ rfl, rfl, rfl⟩ hx)
  | dict hx =>
    rw [show v = _ from r]
    obtain ⟨kvs, g, rp⟩ := S.hs.obj _ _ hx
    refine wpAny_pyIter_dict (beq_eq_false_iff_ne.mpr (S.hs.ns _ _ hx rfl)) g (fin _ ⟨_, Heap.get?_push_size _ rfl, rfl, ?_⟩ (.inl hx))
    rw [rp.length]; rfl
  | dictE hx =>
    rw [show v = _ from r]
    have g := S.hs.obj _ _ hx
    exact wpAny_pyIter_dict (knd := intKind c.prog c.w) (kvs := []) (beq_eq_false_iff_ne.mpr (S.hs.ns _ _ hx rfl)) ⟨_, _, g, ⟨rfl, rfl, rfl⟩, rfl, fun _ he => by simp at he, Pairs.nil, List.nodup_nil⟩
      (fin _ ⟨_, Heap.get?_push_size _ rfl, rfl, rfl⟩ (.inr ⟨rfl, hx⟩))
  | rng hx =>
    rw [show v = _ from r]
    obtain ⟨t, t', t'', g⟩ := S.hs.obj _ _ hx
    refine wpAny_pyIter_range g (range_small hs) (fin _ ?_ trivial)
    rw [rangeSize1]
    show _ = _
    rw [Heap.get?_push_size _ rfl]
    simp
  | tup =>
    refine zC5 fun _ hk => ?_
    obtain ⟨t, its, rfl, ht, rl⟩ := r
    refine hk ?_
    exact iter_tuple ht (fin _ ⟨t, its, ⟨_, Heap.get?_push_size _ rfl, rfl, rfl⟩, ht.push _, rl.tk (Tk.of_keep fun _ _ e => Heap.get?_push_of_some _ e)⟩ trivial)
theorem tk_ext {h h' : Heap} {a : Addr} {oa : Obj} (k : Heap.ExtBut a h h') (ha : h.get? a = some oa) (hc : NT oa) : Tk h h' := fun b o i n e c d => by
  by_cases q : b = a
  · subst q; rw [ha] at e; obtain rfl := Option.some.inj e; exact absurd d (hc c i n)
  · exact k b o q e
theorem next_ {A} (rm : Room A d) {G L l H s it i} {src : Src} (S : Sm c G L nm l H s) (I : ItOk s.heap it i src) (st : Still H src) (hG : G it = none) (hH : H it = none) (hL : L ≠ it) {Q : Option Value → Shared → Prop}
    (q1 : ∀ X v s', src.items[i]? = some X → Sm c G L nm l H s' → Ext s s' → ItOk s'.heap it (i + 1) src → Re s'.heap X v → Q (some v) s')
    (q2 : ∀ s', src.items[i]? = none → Sm c G L nm l H s' → Ext s s' → Q none s') : wpAny c.M A (pyNext (.ref it)) Q NoE s := by
  obtain ⟨o, eo, nt⟩ := I.obj
  have up : ∀ h' tk, Heap.ExtBut it s.heap h' → Sm c G L nm l H { s with heap := h', toks := tk } ∧ Ext s { s with heap := h', toks := tk } := fun h' tk k =>
    have t := tk_ext k eo nt
    ⟨S.loose hG hH hL (fun b o ne e => k b o ne e) t, ⟨t, rfl, rfl⟩⟩
  cases src with
  | list a xs =>
    obtain ⟨vs, n, g, rl⟩ := S.hs.obj a _ st
    have hl : s.heap.IsList a vs := ⟨_, g, rfl, n, rfl⟩
    cases hx : xs[i]? with
    | some X =>
      obtain ⟨v, hv, r⟩ := rl.get hx
      rw [Array.getElem?_toList] at hv
      refine wpAny_pyNext_list_item I hl hv fun h' I' k => ?_
      obtain ⟨S', e⟩ := up h' s.toks k.extBut
      exact q1 X v _ hx S' e I' (r.tk e.tk)
    | none =>
      have hv : vs[i]? = none := by
        have := rl.length
        simp only [Array.length_toList] at this
        rw [List.getElem?_eq_none_iff] at hx
        exact Array.getElem?_eq_none (by lia)
      refine wpAny_pyNext_list_end rm.1 I hl hv fun h' k => ?_
      obtain ⟨S', e⟩ := up h' s.toks k
      exact q2 _ hx S' e
  | dict a ep es =>
    refine zC5 fun _ hk => ?_
    obtain ⟨kvs, g, rp⟩ : ∃ kvs, s.heap.DictAt (intKind c.prog c.w) a kvs ep ∧ ReP s.heap es kvs := by
      rcases st with st | ⟨rfl, st⟩
      · exact S.hs.obj a _ st
      · exact ⟨[], ⟨_, _, S.hs.obj a _ st, ⟨rfl, rfl, rfl⟩, rfl, fun _ he => by simp at he, Pairs.nil, List.nodup_nil⟩, rfl⟩
    have I' : s.heap.IsKeyIter it a i kvs.length ep := by rw [rp.length]; exact I
    refine hk ?_
    cases hx : es[i]? with
    | some p =>
      obtain ⟨v, hv⟩ := rp.getKey hx
      refine wpAny_pyNext_dict_item I' g hv fun key h' hk I' k => ?_
      obtain ⟨S', e⟩ := up h' s.toks k.extBut
      rw [rp.length] at I'
      exact q1 (.int p.1) key _ (by simp [Src.items, hx]) S' e I' (Value.isInt_shape hk)
    | none =>
      have hv : kvs[i]? = none := by
        have := rp.length
        rw [List.getElem?_eq_none_iff] at hx ⊢
        lia
      refine wpAny_pyNext_dict_end rm.1 I' g hv fun h' k => ?_
      obtain ⟨S', e⟩ := up h' s.toks k
      exact q2 _ (by simpa [Src.items] using hx) S' e
  | rng lo hi =>
    by_cases hx : i < (hi - lo).toNat
    · refine wpAny_pyNext_range_item I (by lia) fun h' I' k => ?_
      obtain ⟨S', e⟩ := up h' (s.toks + 1) k.extBut
      refine q1 (.int (lo + i)) _ _ (by simp [Src.items, hx]) S' e ?_ ⟨_, rfl⟩
      show IsRangeIter _ _ _ _ _
      have e1 : lo + (i : Int) + 1 = lo + ((i + 1 : Nat) : Int) := by lia
      have e2 : ((hi - lo).toNat : Int) - (i : Int) - 1 = ((hi - lo).toNat : Int) - ((i + 1 : Nat) : Int) := by lia
      simp only [e1, e2] at I'
      exact I'
    · refine wpAny_pyNext_range_end rm.1 I (by lia) fun h' k => ?_
      obtain ⟨S', e⟩ := up h' s.toks k
      exact q2 _ (by simp [Src.items]; lia) S' e
  | tup xs =>
    obtain ⟨t, its, I1, I2, rl⟩ := I
    cases hx : xs[i]? with
    | some X =>
      obtain ⟨v, hv, r⟩ := rl.get hx
      rw [Array.getElem?_toList] at hv
      refine next_tuple_item I1 I2 hv fun h' I' k => ?_
      obtain ⟨S', e⟩ := up h' s.toks k.extBut
      exact q1 X v _ hx S' e ⟨t, its, I', isTup_tk I2 e.tk, rl.tk e.tk⟩ (r.tk e.tk)
    | none =>
      have hv : its[i]? = none := by
        have := rl.length
        simp only [Array.length_toList] at this
        rw [List.getElem?_eq_none_iff] at hx
        exact Array.getElem?_eq_none (by lia)
      refine next_tuple_end rm.1 I1 I2 hv fun h' k => ?_
      obtain ⟨S', e⟩ := up h' s.toks k
      exact q2 _ hx S' e
theorem ItOk.cls {h : Heap} {it i} : ∀ {src : Src}, ItOk h it i src → ∃ o n vs, h.get? it = some o ∧ o.cls = .type n ∧ o.data = .fields vs ∧ ["enumerate", "zip", "dict_itemiterator", "dict_reverseitemiterator", "odict_iterator", "itertools.zip_longest", "itertools.pairwise"].contains n = false := by
  intro zz
  cases zz with
  | list a xs =>
    intro hz0
    refine zC5 fun _ hk => ?_
    obtain ⟨o, e, q, r⟩ := hz0
    refine hk ?_
    exact ⟨o, _, _, e, q, r, by decide⟩
  | dict a ep es =>
    rintro ⟨o, e, q, r⟩
    exact ⟨o, _, _, e, q, r, by decide⟩
  | rng lo hi =>
    intro e
    exact ⟨_, _, _, e, rfl, rfl, by decide⟩
  | tup xs =>
    rintro ⟨t, its, ⟨o, e, q, r⟩, _⟩
    exact ⟨o, _, _, e, q, r, by decide⟩
set_option backward.match.sparseCases true in
theorem owned_ {A} {s it i} {src : Src} {target : PySem.Expr} {v : Value} {Q : Unit → Shared → Prop} (I : ItOk s.heap it i src) (q : Q () s) : wpAny c.M A (letOwnedTupleGo target (.ref it) v) Q NoE s := by
  obtain ⟨o, n, vs, e, hc, hd, hn⟩ := I.cls
  have fin : ∀ a, wpAny c.M A (do
      let o ← load it
      match o.cls, o.data with
      | .type n, .fields vs =>
        if ["enumerate", "zip", "dict_itemiterator", "dict_reverseitemiterator", "odict_iterator", "itertools.zip_longest", "itertools.pairwise"].contains n && vs[0]? == some (rawInt a) then
          rule "for.unpacks-the-owned-tuple"
          updateField it 0 .none
      | _, _ => pure ()) Q NoE s := fun a => by
    refine wpAny_bind (wpAny_load e ?_)
    rw [hc, hd]
    dsimp only
    rw [hn, Bool.false_and, if_neg (by decide)]
    exact wpAny_pure q
  cases target with
  | Tuple => cases v <;> first | exact fin _ | exact wpAny_pure q
  | List => cases v <;> first | exact fin _ | exact wpAny_pure q
  | _ => exact wpAny_pure q
noncomputable def kL2 (src : Src) (rest : Ls → Wp Fl) (Q : Fl → AH → Prop) (f : Fl) (H : AH) : Prop := match f with
  | .next l => Still H src ∧ rest l H Q
  | .cont l => Still H src ∧ rest l H Q
  | .brk l => Q (.next l) H
  | .ret v => Q (.ret v) H
theorem kL2_n {src rest} {Q : Fl → AH → Prop} {l : Ls} {H : AH} : kL2 src rest Q (.next l) H = (Still H src ∧ rest l H Q) := rfl
theorem kL2_c {src rest} {Q : Fl → AH → Prop} {l : Ls} {H : AH} : kL2 src rest Q (.cont l) H = (Still H src ∧ rest l H Q) := rfl
theorem kL2_b {src rest} {Q : Fl → AH → Prop} {l : Ls} {H : AH} : kL2 src rest Q (.brk l) H = Q (.next l) H := rfl
theorem kL2_r {src rest} {Q : Fl → AH → Prop} {x : V} {H : AH} : kL2 src rest Q (.ret x) H = Q (.ret x) H := rfl
noncomputable def kL1 (src : Src) (body rest : Ls → Wp Fl) (Q : Fl → AH → Prop) (l : Ls) (H : AH) : Prop := body l H (kL2 src rest Q)
noncomputable def wLoop (src : Src) (tg : V → Ls → AH → (Ls → AH → Prop) → Prop) (body : Ls → Wp Fl) : List V → Ls → Wp Fl
  | [], l => fun H Q => Q (.next l) H
  | x :: xs, l => fun H Q => tg x l H (kL1 src body (wLoop src tg body xs) Q)
noncomputable def kFor (tg : V → Ls → AH → (Ls → AH → Prop) → Prop) (body : Ls → Wp Fl) (l : Ls) (Q : Fl → AH → Prop) (x : V) (H : AH) : Prop := ∃ src, IsSrc H x src ∧ src.small ∧ wLoop src tg body src.items l H Q
noncomputable def wFor (w : Ls → Wp V) (tg : V → Ls → AH → (Ls → AH → Prop) → Prop) (body : Ls → Wp Fl) (l : Ls) : Wp Fl := fun H Q => w l H (kFor tg body l Q)
theorem rs_for {target iter body pos} {w : Ls → Wp V} {tg : V → Ls → AH → (Ls → AH → Prop) → Prop} {wb : Ls → Wp Fl} (h : RE c d qn sc nm iter w) (ht : TG c d qn sc nm target tg) (hb : RSs c d qn sc nm body wb)
    (hs : autoParam (∀ L a cd x, foldedSetIterable iter (envOf qn sc L a cd) x = pure x) auI) : RS c d qn sc nm (.For target iter body [] pos) (wFor w tg wb) := by
  intro A rm L a cd G l H s Q S q
  refine wpAny_For (wpAny_mono (h A rm L a cd G l H s _ S q) (fun x s₁ hz2 => ?_) fun _ _ z => z) (hs _ _ _)
  refine zC5 fun _ hk => ?_
  obtain ⟨X, H₁, r1, S1, e1, src, hsrc, hsm, q1⟩ := hz2
  refine hk ?_
  refine iter_ S1 r1 hsrc hsm fun it s₂ S2 e2 I2 st2 hG hH hL => ?_
  have nE : ∀ (α : Type) (E : Value → Shared → Prop) (m : Sem α) (Q' : α → Shared → Prop) s', wpAny c.M A m Q' NoE s' → wpAny c.M A m Q' E s' := fun _ _ _ _ _ z => wpAny_mono z (fun _ _ z => z) fun _ _ z => z.elim
  refine codeAny_forLoop_any (fun n s' => ∃ i l' H', n = (src.items.drop i).length ∧ Sm c G L nm l' H' s' ∧ Ext s s' ∧ ItOk s'.heap it i src ∧ Still H' src ∧ H' it = none ∧ wLoop src tg wb (src.items.drop i) l' H' Q) ?_ _ ⟨0, l, H₁, rfl, S2, e1.trans e2, I2, st2, hH, q1⟩
  intro n s' hz2
  refine zC5 fun _ hk => ?_
  obtain ⟨i, l', H', hn, S', e', I', st', hH', q'⟩ := hz2
  refine hk ?_
  refine nE _ _ _ _ _ (next_ rm S' I' st' hG hH' hL (fun X v s3 hX S3 e3 I3 r3 => ?_) fun s3 hX S3 e3 => ?_)
  · obtain ⟨hlt, hX'⟩ := List.getElem?_eq_some_iff.mp hX
    have hd : src.items.drop i = X :: src.items.drop (i + 1) := by rw [List.drop_eq_getElem_cons hlt, hX']
    rw [hd] at q' hn
    obtain ⟨o, eo, _⟩ := I3.obj
    refine nE _ _ _ _ _ (owned_ I3 ?_)
    refine nE _ _ _ _ _ (wpAny_mono (ht A rm L a cd _ l' H' s3 _ X v (S3.guard eo hG hH' hL) r3 q') (fun _ s4 ⟨l4, H4, S4, e4, q4⟩ => nE _ _ _ _ _ ?_) fun _ _ z => z)
    refine wpAny_mono (hb A rm L a cd _ l4 H4 s4 _ S4 q4) (fun f s5 hz2 => ?_) fun _ _ z => z
    obtain ⟨H5, e5, p⟩ := hz2
    have ee := e'.trans (e3.trans (e4.trans e5))
    cases f with
    | next =>
      obtain ⟨l5, S5, q5, q6⟩ := p
      obtain ⟨S6, eo', hH6⟩ := S5.unguard S3 hG
      exact ⟨_, by rw [hn]; exact Nat.lt_succ_self _, i + 1, l5, H5, rfl, S6, ee, I3.at eo eo' (e4.trans e5).tk, q5, hH6, q6⟩
    | cont =>
      obtain ⟨l5, S5, q5, q6⟩ := p
      obtain ⟨S6, eo', hH6⟩ := S5.unguard S3 hG
      exact ⟨_, by rw [hn]; exact Nat.lt_succ_self _, i + 1, l5, H5, rfl, S6, ee, I3.at eo eo' (e4.trans e5).tk, q5, hH6, q6⟩
    | brk =>
      obtain ⟨l5, S5, q5⟩ := p
      obtain ⟨S6, eo', hH6⟩ := S5.unguard S3 hG
      exact ⟨H5, ee, l5, S6, q5⟩
    | ret v =>
      refine zC5 fun _ hk => ?_
      obtain ⟨x, r5, S5, q5⟩ := p
      refine hk ?_
      exact ⟨H5, ee, x, r5, (S5.unguard S3.hs hG).1, q5⟩
  · have hd : src.items.drop i = [] := List.drop_eq_nil_of_le (List.getElem?_eq_none_iff.mp hX)
    rw [hd] at q'
    exact nE _ _ _ _ _ (wpAny_execs_nil ⟨H', e'.trans e3, l', S3, q'⟩)
noncomputable def kW2 (rest : Ls → Wp Fl) (Q : Fl → AH → Prop) (f : Fl) (H : AH) : Prop := match f with
  | .next l => rest l H Q
  | .cont l => rest l H Q
  | .brk l => Q (.next l) H
  | .ret v => Q (.ret v) H
theorem kW2_n {rest} {Q : Fl → AH → Prop} {l : Ls} {H : AH} : kW2 rest Q (.next l) H = rest l H Q := rfl
theorem kW2_c {rest} {Q : Fl → AH → Prop} {l : Ls} {H : AH} : kW2 rest Q (.cont l) H = rest l H Q := rfl
theorem kW2_b {rest} {Q : Fl → AH → Prop} {l : Ls} {H : AH} : kW2 rest Q (.brk l) H = Q (.next l) H := rfl
theorem kW2_r {rest} {Q : Fl → AH → Prop} {x : V} {H : AH} : kW2 rest Q (.ret x) H = Q (.ret x) H := rfl
noncomputable def kW1 (b rest : Ls → Wp Fl) (l : Ls) (Q : Fl → AH → Prop) (x : Bool) (H : AH) : Prop := match x with
  | false => Q (.next l) H
  | true => b l H (kW2 rest Q)
theorem kW1_t {b rest : Ls → Wp Fl} {l : Ls} {Q : Fl → AH → Prop} {H : AH} : kW1 b rest l Q true H = b l H (kW2 rest Q) := rfl
theorem kW1_f {b rest : Ls → Wp Fl} {l : Ls} {Q : Fl → AH → Prop} {H : AH} : kW1 b rest l Q false H = Q (.next l) H := rfl
noncomputable def wWhileN (t : Ls → Wp Bool) (b : Ls → Wp Fl) : Nat → Ls → Wp Fl
  | 0, _ => fun _ _ => False
  | n + 1, l => fun H Q => t l H (kW1 b (wWhileN t b n) l Q)
noncomputable def wWhile (t : Ls → Wp Bool) (b : Ls → Wp Fl) (l : Ls) : Wp Fl := fun H Q => ∃ n, wWhileN t b n l H Q
theorem rs_while {test body pos} {t : Ls → Wp Bool} {wb : Ls → Wp Fl} (ht : RT c d qn sc nm test t) (hb : RSs c d qn sc nm body wb) : RS c d qn sc nm (.While test body [] pos) (wWhile t wb) := by
  intro A rm L a cd G l H s Q S q
  have nE : ∀ (α : Type) (E : Value → Shared → Prop) (m : Sem α) (Q' : α → Shared → Prop) s', wpAny c.M A m Q' NoE s' → wpAny c.M A m Q' E s' := fun _ _ _ _ _ z => wpAny_mono z (fun _ _ z => z) fun _ _ z => z.elim
  obtain ⟨n, q⟩ := q
  refine wpAny_While (codeAny_whileLoop (fun n s' => ∃ l' H', Sm c G L nm l' H' s' ∧ Ext s s' ∧ wWhileN t wb n l' H' Q) ?_ n ⟨l, H, S, Ext.refl _, q⟩)
  rintro n s' ⟨l', H', S', e', q'⟩
  cases n with
  | zero => exact q'.elim
  | succ n =>
    refine nE _ _ _ _ _ (wpAny_mono (ht A rm L a cd G l' H' s' _ S' q') (fun b s2 hz2 => ?_) fun _ _ z => z)
    obtain ⟨H2, S2, e2, q2⟩ := hz2
    cases b with
    | false => exact nE _ _ _ _ _ (wpAny_execs_nil ⟨H2, e'.trans e2, l', S2, q2⟩)
    | true =>
      refine nE _ _ _ _ _ (wpAny_mono (hb A rm L a cd G l' H2 s2 _ S2 q2) (fun f s3 hz2 => ?_) fun _ _ z => z)
      obtain ⟨H3, e3, p⟩ := hz2
      have ee := e'.trans (e2.trans e3)
      cases f with
      | next => obtain ⟨l3, S3, q3⟩ := p; exact ⟨n, Nat.lt_succ_self _, l3, H3, S3, ee, q3⟩
      | cont => obtain ⟨l3, S3, q3⟩ := p; exact ⟨n, Nat.lt_succ_self _, l3, H3, S3, ee, q3⟩
      | brk => obtain ⟨l3, S3, q3⟩ := p; exact ⟨H3, ee, l3, S3, q3⟩
      | ret v => obtain ⟨x, r3, S3, q3⟩ := p; exact ⟨H3, ee, x, r3, S3, q3⟩
end
end
section
noncomputable def RF (c : Cx) (d : Nat) (f : Addr) (w : List V → Wp V) : Prop :=
  ∀ A, Room A d → ∀ G H s Q xs vs, HS c G H s → ReL s.heap xs vs → w xs H Q →
    codeAny c.M A (.call (.ref f) ⟨vs, []⟩) (fun r s' => match r with | .ok (.ret v) => ∃ x H', Re s'.heap x v ∧ HS c G H' s' ∧ Ext s s' ∧ Q x H' | _ => False) s
theorem lookup_mem : ∀ {es : List (Str × Value)} {p : Str} {v : Value}, (es.map (·.1)).Nodup → (p, v) ∈ es → es.lookup p = some v
  | [], _, _, _, h => by cases h
  | (q, u) :: es, p, v, nd, h => by
    rw [List.map_cons, List.nodup_cons] at nd
    rcases List.mem_cons.mp h with e | h'
    · cases e; simp
    · have : (p == q) = false := beq_eq_false_iff_ne.mpr fun e => nd.1 (List.mem_map.mpr ⟨(p, v), h', e⟩)
      simp only [List.lookup_cons, this]; exact lookup_mem nd.2 h'
theorem LR.blank {h : Heap} {m : Str → Option Value} : ∀ rest : List Str, LR h m rest (List.replicate rest.length none) := by
  intro zz
  induction zz with
  | nil =>
    exact rfl
  | cons _ r ih =>
    exact ⟨none, List.replicate r.length none, rfl, fun X q => by (injection q), ih⟩
theorem LR.start {h : Heap} {m : Str → Option Value} (rest : List Str) : ∀ {ps : List Str} {xs : List V} {vs : List Value}, ReL h xs vs → ps.length = xs.length → (∀ p v, (p, v) ∈ ps.zip vs → m p = some v) →
    LR h m (ps ++ rest) (xs.map some ++ List.replicate rest.length none) := by
  intro zz
  induction zz with
  | nil =>
    intro zz2
    cases zz2 with
    | nil =>
      intro _ e _ _
      exact LR.blank rest
    | cons _ _ =>
      intro _ _ hl _
      simp at hl
  | cons p ps ih =>
    intro zz2
    cases zz2 with
    | cons x xs =>
      intro _ hz1 hl hm
      refine zC5 fun _ hk => ?_
      obtain ⟨v, vs', e, r, l⟩ := hz1
      refine hk ?_
      subst e
      exact ⟨some x, xs.map some ++ List.replicate rest.length none, rfl, fun X q => by obtain rfl := Option.some.inj q; exact ⟨v, hm p v (by simp), r⟩, ih l (by simpa using hl) fun p v q => hm p v (by simp [q])⟩
    | nil =>
      intro _ _ hl _
      simp at hl
noncomputable def Sub (H' H : AH) : Prop := (∀ a o, H' a = some o → H a = some o) ∧ ∀ a C d fs, H' a = some (.inst C d fs) → H' d = some (.own a)
theorem HS.sub {c : Cx} {G H H' s} (S : HS c G H s) (h : Sub H' H) : HS c G H' s where
  base := S.base
  prot := S.prot
  obj := fun a o e => S.obj a o (h.1 a o e)
  disj := fun a e => S.disj a (by cases q : H' a with | none => exact absurd q e | some o => rw [h.1 a o q]; simp)
  wf := h.2
  ns := fun a o e d => S.ns a o (h.1 a o e) d
noncomputable abbrev WF (H : AH) : Prop := ∀ a C d fs, H a = some (.inst C d fs) → H d = some (.own a)
theorem Sub.self {H : AH} (wf : WF H) : Sub H H := ⟨fun _ _ e => e, wf⟩
theorem Sub.drop {H : AH} (wf : WF H) {n : Addr} {o : AO} (hn : H n = none) : Sub H (H.set n o) := by
  refine ⟨fun a x e => ?_, wf⟩
  rw [AH.set_ne]
  · exact e
  · intro z; rw [z, hn] at e; injection e
theorem WF.new {H : AH} (wf : WF H) {n : Addr} {o : AO} (hn : H n = none) (hi : autoParam (∀ C d fs, o ≠ .inst C d fs) auN) : WF (H.set n o) := fun a C d fs e => by
  by_cases q : a = n
  · subst q; rw [AH.set_self] at e; obtain rfl := Option.some.inj e; exact absurd rfl (hi _ _ _)
  · rw [AH.set_ne _ _ q] at e
    have w := wf a C d fs e
    rw [AH.set_ne]
    · exact w
    · intro z; rw [z, hn] at w; injection w
theorem WF.upd {H : AH} (wf : WF H) {n : Addr} {o o' : AO} (hn : H n = some o) (hi : autoParam (∀ C d fs, o' ≠ .inst C d fs) auN) (hw : autoParam (∀ b, o ≠ .own b) auN) : WF (H.set n o') := fun a C d fs e => by
  by_cases q : a = n
  · subst q; rw [AH.set_self] at e; obtain rfl := Option.some.inj e; exact absurd rfl (hi _ _ _)
  · rw [AH.set_ne _ _ q] at e
    have w := wf a C d fs e
    rw [AH.set_ne]
    · exact w
    · intro z; rw [z, hn] at w; exact hw a (Option.some.inj w)
noncomputable def kBody (Q : V → AH → Prop) (f : Fl) (H : AH) : Prop := match f with
  | .ret x => ∃ H'', Sub H'' H ∧ Q x H''
  | .next _ => ∃ H'', Sub H'' H ∧ Q .none H''
  | _ => False
theorem kBody_r {Q : V → AH → Prop} {x : V} {H : AH} : kBody Q (.ret x) H = ∃ H'', Sub H'' H ∧ Q x H'' := rfl
theorem kBody_n {Q : V → AH → Prop} {l : Ls} {H : AH} : kBody Q (.next l) H = ∃ H'', Sub H'' H ∧ Q .none H'' := rfl
noncomputable def wBody (w : Ls → Wp Fl) (l : Ls) : Wp V := fun H Q => w l H (kBody Q)
theorem len0 {α : Type} {P : List α → Prop} (h : P []) (vs : List α) (e : vs.length = 0) : P vs := by
  cases vs with
  | nil => exact h
  | cons a r => injection e
theorem len1 {α : Type} {P : List α → Prop} (h : ∀ a, P [a]) (vs : List α) (e : vs.length = 1) : P vs := by
  cases vs with
  | nil => injection e
  | cons a r => exact len0 (P := fun r => P (a :: r)) (h a) r (Nat.succ.inj e)
theorem len2 {α : Type} {P : List α → Prop} (h : ∀ a b, P [a, b]) (vs : List α) (e : vs.length = 2) : P vs := by
  cases vs with
  | nil => injection e
  | cons a r => exact len1 (P := fun r => P (a :: r)) (h a) r (Nat.succ.inj e)
theorem len3 {α : Type} {P : List α → Prop} (h : ∀ a b c, P [a, b, c]) (vs : List α) (e : vs.length = 3) : P vs := by
  cases vs with
  | nil => injection e
  | cons a r => exact len2 (P := fun r => P (a :: r)) (h a) r (Nat.succ.inj e)
theorem len4 {α : Type} {P : List α → Prop} (h : ∀ a b c d, P [a, b, c, d]) (vs : List α) (e : vs.length = 4) : P vs := by
  cases vs with
  | nil => injection e
  | cons a r => exact len3 (P := fun r => P (a :: r)) (h a) r (Nat.succ.inj e)
theorem len5 {α : Type} {P : List α → Prop} (h : ∀ a b c d f, P [a, b, c, d, f]) (vs : List α) (e : vs.length = 5) : P vs := by
  cases vs with
  | nil => injection e
  | cons a r => exact len4 (P := fun r => P (a :: r)) (h a) r (Nat.succ.inj e)
theorem callEnv_fn {n qual : Str} {params : Arguments} {body : List Stmt} {sc : Scope} {cd : Value} {pm : Value} {L a : Addr} :
    callEnv (fnOf n qual params body sc .none .none .none pm none cd .none) L a = envOf qual sc L a cd := rfl
theorem rf_of {c : Cx} {d : Nat} {f : Addr} {S : Stmt} {qual : Str} {ps rest : List Str} {wb : Ls → Wp Fl} {w : List V → Wp V} (hf : FnAt c.K f S qual) (hb : RSs c d qual (fScope S) (ps ++ rest) (fBody S) wb)
    (hw : ∀ xs H Q, WF H → w xs H Q → xs.length = ps.length ∧ wBody wb (xs.map some ++ List.replicate rest.length none) H Q)
    (hbind : ∀ pm cd vs, vs.length = ps.length → bindArgs (fnOf (fName S) qual (fArgs S) (fBody S) (fScope S) .none .none .none pm none cd .none) ⟨vs, []⟩ = pure (ps.zip vs))
    (hnd : autoParam ps.Nodup auD) (hcell : autoParam (∀ x ∈ (fScope S).names, x.2 ≠ .cell) auD) (hloc : autoParam (∀ x ∈ ps, (fScope S).names.lookup x = some .local) auD)
    (hco : autoParam ((fScope S).isCoroutine = false) auR) (hgen : autoParam ((fScope S).isGenerator = false) auR) (hk : autoParam ((fScope S).kind = .function) auR) : RF c (d + 1) f w := by
  intro A rm G H s Q xs vs S0 rl q
  obtain ⟨hlen, q⟩ := hw xs H Q S0.wf q
  have hl := rl.length
  obtain ⟨oc, od, osl, pm, cdv, hlk, hcode⟩ := hf
  have ho := S0.X f _ hlk
  refine codeAny_call_def rm.depth ho rfl S0.T.nolimit (codeRec_of S0.X hcode) rfl (BindsTo.of_eq (hbind pm cdv vs (by lia))) hcell (fun x hx => hloc x.1 ?_) (fun h₀ N k => ?_) hco hgen hk
  · obtain ⟨y, v⟩ := x; exact (List.of_mem_zip hx).1
  · simp only [callEnv_fn]
    have S1 : HS c G H { s with heap := h₀, toks := s.toks + (ps.zip vs).length } := S0.ext k
    obtain ⟨f1, f2⟩ := S0.fresh (zH6 _)
    have hz : (ps.zip vs).map (·.1) = ps := List.map_fst_zip (by lia)
    have SS : Sm c G s.heap.objs.size (ps ++ rest) (xs.map some ++ List.replicate rest.length none) H { s with heap := h₀, toks := s.toks + (ps.zip vs).length } := by
      refine ⟨S1, f2, f1, _, N, LR.start rest (rl.tk (Tk.of_keep k)) hlen.symm fun p v hm => ?_⟩
      refine lookup_mem ?_ (List.mem_reverse.mpr hm)
      simp only [List.map_reverse, hz]; exact (List.reverse_perm ps).nodup_iff.mpr hnd
    refine wpAny_mono (hb _ (rm.deeper _) _ _ _ G _ H _ _ SS q) (fun fl s2 hz2 => ?_) fun _ _ z => z.elim
    obtain ⟨H2, e2, p⟩ := hz2
    have ee : Ext s s2 := Ext.trans (show Ext s { s with heap := h₀, toks := s.toks + (ps.zip vs).length } from ⟨Tk.of_keep k, rfl, rfl⟩) e2
    cases fl with
    | next =>
      obtain ⟨l2, S2, H3, hs, q2⟩ := p
      exact ⟨.none, H3, rfl, S2.hs.sub hs, ee, q2⟩
    | ret v =>
      obtain ⟨x, r, S2, H3, hs, q2⟩ := p
      exact ⟨x, H3, r, S2.sub hs, ee, q2⟩
    | brk => obtain ⟨l2, S2, q2⟩ := p; exact q2.elim
    | cont => obtain ⟨l2, S2, q2⟩ := p; exact q2.elim
section
variable {c : Cx} {d : Nat} {qn : Str} {sc : Scope} {nm : List Str}
theorem Sm.held {G L l H s} (S : Sm c G L nm l H s) : ∃ o, HS c (G.set L o) H s ∧ ∀ H' s', HS c (G.set L o) H' s' → Ext s s' → Sm c G L nm l H' s' := by
  refine zC5 fun _ hk => ?_
  obtain ⟨m, N, lr⟩ := S.fr
  obtain ⟨o, ho, nt⟩ := ns_nt N
  refine hk ?_
  refine ⟨o, S.hs.guard ho S.gL S.hL, fun H' s' S' e => ?_⟩
  obtain ⟨a, b, z⟩ := S'.unguard S.hs S.gL
  refine ⟨a, S.gL, z, m, ?_, lr.tk e.tk⟩
  refine zC5 fun _ hk => ?_
  obtain ⟨o', es, ep, e1, r⟩ := N
  rw [ho] at e1; obtain rfl := Option.some.inj e1
  refine hk ?_
  exact ⟨o, es, ep, b, r⟩
theorem call_ {f : Addr} {w : List V → Wp V} (h : RF c d f w) {A} (rm : Room A d) {G L l H s Q xs vs} (S : Sm c G L nm l H s) (rl : ReL s.heap xs vs) (q : w xs H Q) :
    codeAny c.M A (.call (.ref f) ⟨vs, []⟩) (fun r s' => match r with | .ok (.ret v) => PV c G L nm l s Q v s' | _ => False) s := by
  refine zC5 fun _ hk => ?_
  obtain ⟨o, S1, back⟩ := S.held
  refine hk ?_
  refine codeAny_mono (h A rm _ H s Q xs vs S1 rl q) fun r s' z => ?_
  rcases r with e | (v | _ | _ | _) <;> first | exact z.elim | skip
  all_goals first | exact z.elim | (obtain ⟨x, H', r', S', e', q'⟩ := z; exact PV.mk r' (back _ _ S' e') e' q')
theorem args_ {es : List Expr} {ws : Ls → Wp (List V)} (h : REs c d qn sc nm es ws) {A} (rm : Room A d) {L a cd pos G l H s Q} {f : Value} (S : Sm c G L nm l H s) (q : ws l H Q)
    (hp : (backTo pos (starEach es (envOf qn sc L a cd))).any (·.1) = false) :
    wpAny c.M A (evalArgs f true (backTo pos (starEach es (envOf qn sc L a cd))) []) (fun a' s' => a'.kw = [] ∧ ∃ xs H', ReL s'.heap xs a'.pos ∧ Sm c G L nm l H' s' ∧ Ext s s' ∧ Q xs H') NoE s := by
  have z := h A rm L a cd pos G l H s Q S q
  revert z hp
  cases backTo pos (starEach es (envOf qn sc L a cd)) with
  | nil =>
    intro hp z
    refine wpAny_bind (wpAny_mono z (fun vs s' p => wpAny_bind (wpAny_pure (wpAny_holding (wpAny_bind (wpAny_pure (wpAny_bind (wpAny_pure (wpAny_pure ⟨rfl, p⟩)))))))) fun _ _ z => z)
  | cons x r =>
    obtain ⟨b, x⟩ := x
    intro hp z
    simp only [List.any_cons, Bool.or_eq_false_iff] at hp
    obtain ⟨rfl, _⟩ := hp
    exact evalArgs_plain (wpAny_mono z (fun _ _ p => ⟨rfl, p⟩) fun _ _ z => z)
theorem plainArgs {args : List (Bool × Sem Value)} (h : args.any (·.1) = false) : (args.any (·.1) || ([] : List (Option Str × Sem Value)).any (·.1.isNone)) = false := by rw [h]; rfl
theorem keeps_bi (id : String) (M : Model) (h : Heap) (_ : True) : ∃ k, (k = Keeper.frame ∨ k = Keeper.machine ∨ k = Keeper.boundFrame) ∧ Looks M h (keeperOf (.builtin id)) k := ⟨.machine, .inr (.inl rfl), .now⟩
theorem keeps_ty (id : String) (M : Model) (h : Heap) (_ : True) : ∃ k, (k = Keeper.frame ∨ k = Keeper.machine ∨ k = Keeper.boundFrame) ∧ Looks M h (keeperOf (.type id)) k := ⟨.machine, .inr (.inl rfl), .now⟩
theorem HS.newInst {c : Cx} {G H s} (S : HS c G H s) (C : Addr) {g dr} :
    HS c G ((H.set s.heap.objs.size (.own (s.heap.objs.size + 1))).set (s.heap.objs.size + 1) (.inst C s.heap.objs.size [])) ⟨(s.heap.push emptyDict).push (instObj C s.heap.objs.size), g, dr, s.toks, s.os⟩ := by
  have k : ∀ b o, s.heap.get? b = some o → ((s.heap.push emptyDict).push (instObj C s.heap.objs.size)).get? b = some o := fun b o e => Heap.get?_push_of_some _ (Heap.get?_push_of_some _ e)
  have S1 : HS c G (H.set s.heap.objs.size (.own (s.heap.objs.size + 1))) { s with heap := s.heap.push emptyDict, toks := s.toks } :=
    S.alloc emptyDict rfl ⟨_, _, _, Heap.get?_push_size _ rfl, rfl⟩ (by intro _ _ _ q; injection q)
  have hs : (s.heap.push emptyDict).objs.size = s.heap.objs.size + 1 := Heap.size_push ..
  have F := S1.fresh (zH6 _)
  dsimp only at F
  rw [hs] at F
  have ne : s.heap.objs.size ≠ s.heap.objs.size + 1 := Nat.ne_of_lt (Nat.lt_succ_self _)
  have gm : ((s.heap.push emptyDict).push (instObj C s.heap.objs.size)).get? s.heap.objs.size = some emptyDict := Heap.get?_push_of_some _ (Heap.get?_push_size _ rfl)
  refine ⟨S.base, fun b o e => k b o (S.prot b o e), fun a o e => ?_, fun a e => ?_, fun a C' d' fs e => ?_, fun a o e dd => ?_⟩
  · by_cases q : a = s.heap.objs.size + 1
    · subst q; rw [AH.set_self] at e; obtain rfl := Option.some.inj e
      refine ⟨fun _ => none, get_push2 rfl, ?_, fun x => rfl, fun x hx => absurd rfl hx⟩
      exact Heap.Ns1.of_empty ⟨_, #[], 0, gm, rfl, fun _ he => by simp at he, fun _ => rfl⟩
    · rw [AH.set_ne _ _ q] at e
      refine (S1.obj a o e).keep (Tk.of_keep fun b o e => Heap.get?_push_of_some _ e) (fun _ => Heap.get?_push_of_some _) (fun _ d _ _ _ => Heap.get?_push_of_some _)
  · by_cases q : a = s.heap.objs.size + 1
    · subst q; exact F.2
    · rw [AH.set_ne _ _ q] at e; exact S1.disj a e
  · by_cases q : a = s.heap.objs.size + 1
    · subst q; rw [AH.set_self] at e; cases e
      rw [AH.set_ne _ _ ne, AH.set_self]
    · rw [AH.set_ne _ _ q] at e
      have w := S1.wf a C' d' fs e
      rw [AH.set_ne]
      · exact w
      · intro z; rw [z, F.1] at w; injection w
  · by_cases q : a = s.heap.objs.size + 1
    · subst q; exact Nat.ne_of_gt (Nat.lt_trans (Nat.lt_trans (by decide) S.T.g.lt) (Nat.lt_succ_self _))
    · rw [AH.set_ne _ _ q] at e; exact S1.ns a o e dd
theorem Sm.newInst {G L l H s} (S : Sm c G L nm l H s) (C : Addr) {g dr} :
    Sm c G L nm l ((H.set s.heap.objs.size (.own (s.heap.objs.size + 1))).set (s.heap.objs.size + 1) (.inst C s.heap.objs.size [])) ⟨(s.heap.push emptyDict).push (instObj C s.heap.objs.size), g, dr, s.toks, s.os⟩ := by
  have k : ∀ b o, s.heap.get? b = some o → ((s.heap.push emptyDict).push (instObj C s.heap.objs.size)).get? b = some o := fun b o e => Heap.get?_push_of_some _ (Heap.get?_push_of_some _ e)
  refine ⟨S.hs.newInst C, S.gL, ?_, let ⟨m, a, b⟩ := S.fr; ⟨m, a.keeps k, b.tk (Tk.of_keep k)⟩⟩
  rw [AH.set_ne _ _ (Nat.ne_of_lt (Nat.lt_succ_of_lt S.lt)), AH.set_ne _ _ S.ne_new]; exact S.hL
theorem Room.under {A : Around} (r : Room A (d + 1)) {C : Addr} {a : List Value} : Room (A.under (.builtin "type.__call__" ⟨.ref C :: a, []⟩)) d := by
  have hw : (Code.builtin "type.__call__" ⟨.ref C :: a, []⟩).weight = 1 := by rfl
  have hu : (Code.builtin "type.__call__" ⟨.ref C :: a, []⟩).cUnits = 1 := rfl
  obtain ⟨h, x, y⟩ := r
  refine ⟨h, ?_, ?_⟩
  · show A.depth + (Code.builtin "type.__call__" ⟨.ref C :: a, []⟩).weight + _ ≤ _; rw [hw]; lia
  · show A.units + (Code.builtin "type.__call__" ⟨.ref C :: a, []⟩).cUnits + _ ≤ _; rw [hu]; lia
noncomputable def kCall (f : List V → Wp V) (Q : V → AH → Prop) (xs : List V) (H : AH) : Prop := f xs H Q
noncomputable def zD3 (f : List V → Wp V) (ws : Ls → Wp (List V)) (l : Ls) : Wp V := fun H Q => ws l H (kCall f Q)
theorem ev_glob {A} {L a' cd} {G l H s} {x : Str} {pos : Pos} {Q : Value → Shared → Prop} (S : Sm c G L nm l H s) (a : Addr) (e : globOf x = some a) (hk : sc.kind = .function) (hx : sc.names.lookup x = some .globalImplicit) (hd : (x == ("__debug__" : Str)) = false)
    (h : Q (.ref a) s) : wpAny c.M A (eval (.Name x pos) (envOf qn sc L a' cd)) Q NoE s :=
  Name_function_global hk hx (loadGlobal_global (env := envOf qn sc L a' cd) S.hs.T.g (mg_of c.X c.T.g (c.glob e)) h) hd
theorem zE6 {x : Str} {p pos : Pos} {es : List Expr} {ws : Ls → Wp (List V)} {f : Addr} {w : List V → Wp V} (hf : RF c d f w) (hs : REs c d qn sc nm es ws) (e : autoParam (globOf x = some f) auK) (hn : autoParam (fnHas f = true) auK)
    (hk : autoParam (sc.kind = .function) auK) (hx : autoParam (sc.names.lookup x = some .globalImplicit) auK) (hd : autoParam ((x == ("__debug__" : Str)) = false) auK)
    (hp : autoParam (∀ pos L a cd, (backTo pos (starEach es (envOf qn sc L a cd))).any (·.1) = false) auI) : RE c d qn sc nm (.Call (.Name x p) es [] pos) (zD3 w ws) := by
  intro A rm L a cd G l H s Q S q
  refine wpAny_bind (ev_glob S f e hk hx hd ?_)
  refine callWith_of (P := c.K.In) (plainArgs (hp _ _ _ _)) (keeps_K (c.keep hn)) (wpAny_mono (args_ hs rm S q (hp _ _ _ _)) (fun a' s1 ⟨ek, xs, H1, rl, S1, e1, q1⟩ => ⟨S1.hs.X, ?_⟩) fun _ _ z => z)
  obtain ⟨ap, ak⟩ := a'
  obtain rfl : ak = [] := ek
  refine wpAny_call (codeAny_mono (call_ hf rm S1 rl q1) fun r s' z => ?_)
  rcases r with e | (v | _ | _ | _) <;> first | exact z.elim | exact z.trans e1
noncomputable def kNew2 (n : Addr) (Q : V → AH → Prop) (r : V) (H : AH) : Prop := r = .none ∧ Q (.ref n) H
noncomputable def kNew (C : Addr) (f : List V → Wp V) (Q : V → AH → Prop) (xs : List V) (H : AH) : Prop := ∀ n m, n ≠ m → H n = none → H m = none → f (.ref n :: xs) ((H.set m (.own n)).set n (.inst C m [])) (kNew2 n Q)
noncomputable def wNew (C : Addr) (f : List V → Wp V) (ws : Ls → Wp (List V)) (l : Ls) : Wp V := fun H Q => ws l H (kNew C f Q)
theorem re_new {x : Str} {p pos : Pos} {es : List Expr} {ws : Ls → Wp (List V)} {C f : Addr} {w : List V → Wp V} (hf : RF c d f w) (hs : REs c (d + 1) qn sc nm es ws) (e : autoParam (globOf x = some C) auK) (hn : autoParam (makeOf C = some f) auK)
    (hk : autoParam (sc.kind = .function) auK) (hx : autoParam (sc.names.lookup x = some .globalImplicit) auK) (hd : autoParam ((x == ("__debug__" : Str)) = false) auK)
    (hp : autoParam (∀ pos L a cd, (backTo pos (starEach es (envOf qn sc L a cd))).any (·.1) = false) auI) : RE c (d + 1) qn sc nm (.Call (.Name x p) es [] pos) (wNew C w ws) := by
  intro A rm L a cd G l H s Q S q
  have hmk := c.make hn
  unfold makeOk at hmk
  simp only [Bool.and_eq_true, beq_iff_eq] at hmk
  obtain ⟨⟨⟨m1, m2⟩, m3⟩, m4⟩ := hmk
  refine wpAny_bind (ev_glob S C e hk hx hd ?_)
  refine callWith_of (P := c.K.In) (plainArgs (hp _ _ _ _)) (keeps_K m4) (wpAny_mono (args_ hs rm S q (hp _ _ _ _)) (fun a' s1 ⟨ek, xs, H1, rl, S1, e1, q1⟩ => ⟨S1.hs.X, ?_⟩) fun _ _ z => z)
  obtain ⟨ap, ak⟩ := a'
  obtain rfl : ak = [] := ek
  refine wpAny_call ?_
  obtain ⟨hh, g, dr, t, os⟩ := s1
  refine make_core (makes_of S1.hs.X m1) (looks_findIn S1.hs.X m2) (fun self => bind_fn S1.hs.X self (by unfold isFn at m3; exact beq_iff_eq.mp m3)) (.inl rfl) ?_
  have kk : ∀ b o, hh.get? b = some o → ((hh.push emptyDict).push (instObj C hh.objs.size)).get? b = some o := fun b o e => Heap.get?_push_of_some _ (Heap.get?_push_of_some _ e)
  have S2 := S1.newInst C (g := g) (dr := dr)
  have n1 := S1.hs.fresh (zH6 _)
  have n2 : H1 (hh.objs.size + 1) = none := (S1.hs.fresh (by
    cases q : hh.get? (hh.objs.size + 1) with
    | none => rfl
    | some o => exact absurd (Nat.lt_of_succ_lt (Heap.lt_size q)) (Nat.lt_irrefl _))).1
  have room : Room (A.under (.builtin "type.__call__" ⟨.ref C :: ap, []⟩)) d := rm.under
  refine codeAny_mono (call_ hf room S2 (ReL.cons (x := .ref (hh.objs.size + 1)) rfl (rl.tk (Tk.of_keep kk))) (q1 _ _ (Nat.succ_ne_self _) n2 n1.1)) fun r s' z => ?_
  rcases r with e | (v | _ | _ | _) <;> first | exact z.elim | skip
  all_goals first | exact z.elim | skip
  refine zC5 fun _ hk => ?_
  obtain ⟨x', H', r', S', e', hr, q'⟩ := z
  subst hr
  refine hk ?_
  exact ⟨r', PV.mk (x := .ref (hh.objs.size + 1)) rfl S' (e1.trans (Ext.trans (s' := ⟨(hh.push emptyDict).push (instObj C hh.objs.size), g, dr, t, os⟩) ⟨Tk.of_keep kk, rfl, rfl⟩ e')) q'⟩
end
end
section
section
variable {c : Cx} {d : Nat} {qn : Str} {sc : Scope} {nm : List Str}
noncomputable def kM2 (w : List V → Wp V) (x : V) (Q : V → AH → Prop) (xs : List V) (H : AH) : Prop := w (x :: xs) H Q
noncomputable def kM1 (C : Addr) (w : List V → Wp V) (ws : Ls → Wp (List V)) (l : Ls) (Q : V → AH → Prop) (x : V) (H : AH) : Prop := match x with
  | .ref a => match H a with
    | some (.inst C' dd fs) => C' = C ∧ ws l H (kM2 w (.ref a) Q)
    | _ => False
  | _ => False
theorem kM1_r {C : Addr} {w : List V → Wp V} {ws : Ls → Wp (List V)} {l : Ls} {Q : V → AH → Prop} {a : Addr} {H : AH} : kM1 C w ws l Q (.ref a) H = (match H a with
    | some (.inst C' dd fs) => C' = C ∧ ws l H (kM2 w (.ref a) Q)
    | _ => False) := rfl
theorem m1_ {C d : Addr} {fs : List (Str × V)} {w : List V → Wp V} {ws : Ls → Wp (List V)} {l : Ls} {Q : V → AH → Prop} {a : Addr} {H : AH} (h : H a = some (.inst C d fs)) : kM1 C w ws l Q (.ref a) H = ws l H (kM2 w (.ref a) Q) := by
  unfold kM1; dsimp only; rw [h]; exact propext ⟨And.right, fun q => ⟨rfl, q⟩⟩
noncomputable def wMeth (C : Addr) (wo : Ls → Wp V) (w : List V → Wp V) (ws : Ls → Wp (List V)) (l : Ls) : Wp V := fun H Q => wo l H (kM1 C w ws l Q)
set_option tactic.hygienic true in
theorem zJ1 {o : Expr} {name : Str} {apos pos : Pos} {es : List Expr} {wo : Ls → Wp V} {ws : Ls → Wp (List V)} {f : Addr} {w : List V → Wp V} (C : Addr) (ho : RE c d qn sc nm o wo) (hf : RF c d f w) (hs : REs c d qn sc nm es ws)
    (pl : Env → Sem Bool) (e : autoParam (methOf C name = some f) auK)
    (he : autoParam (∀ env, eval (.Call (.Attribute o name apos) es [] pos) env = (do
      let ov ← eval o env
      standAt apos.atName
      let (f, first) ← holding [ov] (getMethod ov name (pl env))
      callWith pos f first (backTo pos (starEach es env)) [])) auU)
    (hp : autoParam (∀ pos L a cd, (backTo pos (starEach es (envOf qn sc L a cd))).any (·.1) = false) auI) : RE c d qn sc nm (.Call (.Attribute o name apos) es [] pos) (wMeth C wo w ws) := by
  intro A rm L a cd G l H s Q S q
  refine zC5 fun _ hk => ?_
  have hmk := c.meth e
  unfold methOk at hmk
  simp only [Bool.and_eq_true, beq_iff_eq, Bool.not_eq_true'] at hmk
  obtain ⟨⟨⟨⟨m1, m2⟩, m3⟩, m4⟩, m5⟩ := hmk
  refine hk ?_
  refine MethodCall_ (wpAny_mono (ho A rm L a cd G l H s _ S q) (fun ov s1 hz2 => ?_) fun _ _ z => z) (he _)
  obtain ⟨x, H1, r1, S1, e1, q1⟩ := hz2
  cases x <;> try exact False.elim q1
  · rename_i b
    rw [show ov = _ from r1]
    · refine zC5 fun _ hk => ?_
      obtain ⟨C', dd, fs, hx, e0, qq⟩ := ao_inst (F := fun C' dd fs => C' = C ∧ ws l H1 (kM2 w (.ref b) Q)) q1
      clear q1; subst e0
      obtain ⟨m, g, N, rn, hfs⟩ := S1.hs.obj b _ hx
      obtain ⟨od, hod, I⟩ := instAt g N.ns
      have hsh : shadowIn (some od) name = some false := by
        unfold shadowIn
        dsimp only
        rw [lookIn_of N.ns hod name]
        have : fs.lookup name = none := by
          cases z : fs.lookup name with
          | none => rfl
          | some v => rw [hfs name (by rw [z]; simp)] at m4; injection m4
        have r := rn name
        rw [this] at r
        rw [show m name = none from r]; rfl
      refine hk ?_
      refine method_fn S1.hs.X I (plainGet_of m1).1 (plainGet_of m1).2 m2 (by unfold isFn at m3; exact beq_iff_eq.mp m3) hsh ?_
      refine callWith_of (P := c.K.In) (plainArgs (hp _ _ _ _)) (keeps_K m5) (wpAny_mono (args_ hs rm S1 qq (hp _ _ _ _)) (fun a' s2 ⟨ek, xs, H2, rl, S2, e2, q2⟩ => ⟨S2.hs.X, ?_⟩) fun _ _ z => z)
      obtain ⟨ap, ak⟩ := a'
      obtain rfl : ak = [] := ek
      refine wpAny_call (codeAny_mono (call_ hf rm S2 (ReL.cons (x := .ref b) rfl rl) q2) fun r s' z => ?_)
      rcases r with e | (v | _ | _ | _) <;> first | exact z.elim | exact z.trans (e1.trans e2)
noncomputable def RB (c : Cx) (d : Nat) (nm : List Str) (fv : Value) (w : List V → Wp V) : Prop :=
  ∀ A, Room A d → ∀ L G l H s Q xs vs, Sm c G L nm l H s → ReL s.heap xs vs → w xs H Q → wpAny c.M A (call fv vs) (PV c G L nm l s Q) NoE s
theorem ev_builtin {A} {L a' cd} {G l H s} {x : Str} {pos : Pos} {v : Value} {Q : Value → Shared → Prop} (S : Sm c G L nm l H s) (e : globB.contains x = true) (hv : bootBuiltins x = some v) (hn : x ≠ "__name__") (hk : sc.kind = .function) (hx : sc.names.lookup x = some .globalImplicit) (hd : (x == ("__debug__" : Str)) = false)
    (h : Q v s) : wpAny c.M A (eval (.Name x pos) (envOf qn sc L a' cd)) Q NoE s :=
  Name_function_global hk hx (loadGlobal_builtin (env := envOf qn sc L a' cd) S.hs.T.g (mg_none_of c.X c.T.g (c.globB e)) S.hs.T.b ((S.hs.T.builtins x hn).trans hv) h) hd
inductive BT : Value → Prop
  | bi {i} : BT (.builtin i)
  | ty {i} : BT (.type i)
theorem zH2 {x : Str} {p pos : Pos} {es : List Expr} {ws : Ls → Wp (List V)} {w : List V → Wp V} (fv : Value) (hf : RB c d nm fv w) (hs : REs c d qn sc nm es ws) (hkp : autoParam (BT fv) auC)
    (e : autoParam (globB.contains x = true) auK) (hv : autoParam (bootBuiltins x = some fv) auK) (hn : autoParam (x ≠ "__name__") auD)
    (hk : autoParam (sc.kind = .function) auK) (hx : autoParam (sc.names.lookup x = some .globalImplicit) auK) (hd : autoParam ((x == ("__debug__" : Str)) = false) auK)
    (hp : autoParam (∀ pos L a cd, (backTo pos (starEach es (envOf qn sc L a cd))).any (·.1) = false) auI) : RE c d qn sc nm (.Call (.Name x p) es [] pos) (zD3 w ws) := by
  intro A rm L a cd G l H s Q S q
  refine wpAny_bind (ev_builtin S e hv hn hk hx hd ?_)
  refine callWith_of (P := fun _ => True) (plainArgs (hp _ _ _ _)) (fun h _ => by cases hkp; exact keeps_bi _ _ h trivial; exact keeps_ty _ _ h trivial)
    (wpAny_mono (args_ hs rm S q (hp _ _ _ _)) (fun a' s1 ⟨ek, xs, H1, rl, S1, e1, q1⟩ => ⟨trivial, ?_⟩) fun _ _ z => z)
  obtain ⟨ap, ak⟩ := a'
  obtain rfl : ak = [] := ek
  exact wpAny_mono (hf A rm L G l H1 s1 _ xs ap S1 rl q1) (fun _ _ p => p.trans e1) fun _ _ z => z
theorem reL1 {h : Heap} {x : V} {vs : List Value} (r : ReL h [x] vs) : ∃ v, vs = [v] ∧ Re h x v := by
  obtain ⟨v, vs', e, a, b⟩ := r
  exact ⟨v, by rw [e, show vs' = [] from b], a⟩
theorem reL2 {h : Heap} {x y : V} {vs : List Value} (r : ReL h [x, y] vs) : ∃ v w, vs = [v, w] ∧ Re h x v ∧ Re h y w := by
  obtain ⟨v, vs', e, a, b⟩ := r
  obtain ⟨w, e', b⟩ := reL1 b
  exact ⟨v, w, by rw [e, e'], a, b⟩
theorem reL3 {h : Heap} {x y z : V} {vs : List Value} (r : ReL h [x, y, z] vs) : ∃ v w u, vs = [v, w, u] ∧ Re h x v ∧ Re h y w ∧ Re h z u := by
  obtain ⟨v, vs', e, a, b⟩ := r
  obtain ⟨w, u, e', b, c⟩ := reL2 b
  exact ⟨v, w, u, by rw [e, e'], a, b, c⟩
noncomputable def wLen (xs : List V) : Wp V := fun H Q => match xs with
  | [.ref a] => (match H a with | some (.list ys) => ys.length ≤ 1000000 ∧ Q (.int ys.length) H | _ => False)
  | [.tup ys] => ys.length ≤ 1000000 ∧ Q (.int ys.length) H
  | _ => False
set_option tactic.hygienic true in
theorem rb_len : RB c d nm (.builtin "len") wLen := by
  intro A rm L G l H s Q xs vs S rl q
  rcases xs with _ | ⟨x, _ | ⟨y, r⟩⟩
  · exact False.elim q
  rotate_left
  · cases x <;> exact False.elim q
  cases x <;> try exact False.elim q
  rotate_left
  · rename_i a
    obtain ⟨v, rfl, rfl⟩ := reL1 rl
    · obtain ⟨ys, hx, q⟩ := ao_list (F := fun ys => ys.length ≤ 1000000 ∧ Q (.int ys.length) H) q
      obtain ⟨vs, n, g, r⟩ := S.hs.obj a _ hx
      have hl := r.length
      simp only [Array.length_toList] at hl
      refine call_len_list ⟨_, g, rfl, n, rfl⟩ (by lia) (PV.mk (x := .int ys.length) ⟨_, by rw [hl]⟩ S.tok Ext.tok q.2)
  · rename_i ys
    obtain ⟨v, rfl, ⟨t, its, rfl, ht, r⟩⟩ := reL1 rl
    have q : ys.length ≤ 1000000 ∧ Q (.int ys.length) H := q
    have hl := r.length
    simp only [Array.length_toList] at hl
    exact PyProof.Rows.len_tuple ht (by lia) (PV.mk (x := .int ys.length) ⟨_, by rw [hl]⟩ S.tok Ext.tok q.2)
noncomputable def wIsTup (xs : List V) : Wp V := fun H Q => match xs with
  | [.tup _, .ty T] => T = "tuple" ∧ Q (.bool true) H
  | [.int _, .ty T] => T = "tuple" ∧ Q (.bool false) H
  | [.str _, .ty T] => T = "tuple" ∧ Q (.bool false) H
  | _ => False
inductive IsiI (H : AH) (Q : V → AH → Prop) : List V → Prop
  | int : ∀ i, Q (.bool false) H → IsiI H Q [.int i, .ty "tuple"]
  | str : ∀ i, Q (.bool false) H → IsiI H Q [.str i, .ty "tuple"]
  | tup : ∀ i, Q (.bool true) H → IsiI H Q [.tup i, .ty "tuple"]
theorem isi_inv {xs : List V} {H : AH} {Q : V → AH → Prop} (q : wIsTup xs H Q) : IsiI H Q xs := by
  rcases xs with _ | ⟨x, xs⟩
  · exact False.elim q
  cases x <;> try exact False.elim q
  all_goals rcases xs with _ | ⟨y, xs⟩ <;> try exact False.elim q
  all_goals cases y <;> try exact False.elim q
  all_goals rcases xs with _ | ⟨z, xs⟩ <;> try exact False.elim q
  · obtain ⟨rfl, q⟩ := q; exact .int _ q
  · obtain ⟨rfl, q⟩ := q; exact .str _ q
  · obtain ⟨rfl, q⟩ := q; exact .tup _ q
theorem rb_isi : RB c d nm (.builtin "isinstance") wIsTup := by
  intro A rm L G l H s Q xs vs S rl q
  replace q := isi_inv q
  cases q with
  | int i q =>
    obtain ⟨v, v2, rfl, ⟨t, rfl⟩, rfl⟩ := reL2 rl
    exact IsiPair.int_tuple (PV.mk (x := .bool false) rfl S.tok Ext.tok q)
  | str i q =>
    obtain ⟨v, v2, rfl, ⟨t, rfl⟩, rfl⟩ := reL2 rl
    exact IsiPair.str_tuple (PV.mk (x := .bool false) rfl S.tok Ext.tok q)
  | tup i q =>
    obtain ⟨v, v2, rfl, ⟨t, its, rfl, ht, r⟩, rfl⟩ := reL2 rl
    obtain ⟨o, ho, hc, _⟩ := ht
    exact IsiPair.tuple_tuple ho hc (PV.mk (x := .bool true) rfl S (Ext.refl _) q)
noncomputable def wTupOf (xs : List V) : Wp V := fun H Q => match xs with
  | [.ref a] => (match H a with | some (.list ys) => ys.length ≤ 1000000 ∧ Q (.tup ys) H | _ => False)
  | _ => False
theorem tupOf_l {a : Addr} {ys : List V} {H : AH} {Q : V → AH → Prop} (h : H a = some (.list ys)) : wTupOf [.ref a] H Q = (ys.length ≤ 1000000 ∧ Q (.tup ys) H) := by
  unfold wTupOf; dsimp only; rw [h]
set_option tactic.hygienic true in
theorem rb_tuple : RB c d nm (.type "tuple") wTupOf := by
  intro A rm L G l H s Q xs vs S rl q
  rcases xs with _ | ⟨x, _ | ⟨y, r⟩⟩
  · exact False.elim q
  rotate_left
  · cases x <;> exact False.elim q
  cases x <;> try exact False.elim q
  · rename_i a
    obtain ⟨v, rfl, rfl⟩ := reL1 rl
    · refine zC5 fun _ hk => ?_
      obtain ⟨ys, hx, q⟩ := ao_list (F := fun ys => ys.length ≤ 1000000 ∧ Q (.tup ys) H) q
      obtain ⟨vs, n, g, r⟩ := S.hs.obj a _ hx
      have hl := r.length
      simp only [Array.length_toList] at hl
      refine hk ?_
      refine call_tuple_list ⟨_, g, rfl, n, rfl⟩ (fun h' k => ?_) (line_big (by lia))
      have kk : ∀ b o, s.heap.get? b = some o → (h'.push { cls := .type "tuple", data := .seq vs }).get? b = some o := fun b o e => Heap.get?_push_of_some _ (k b o e)
      have t := Tk.of_keep kk
      refine PV.mk (x := .tup ys) ⟨_, vs, rfl, ⟨_, Heap.get?_push_size _ rfl, rfl, 0, rfl⟩, r.tk t⟩ (S.step kk) ⟨t, rfl, rfl⟩ q.2
noncomputable def wRange (xs : List V) : Wp V := fun H Q => match xs with
  | [.int i] => ∀ n, H n = none → Q (.ref n) (H.set n (.rng 0 i))
  | [.int i, .int j] => ∀ n, H n = none → Q (.ref n) (H.set n (.rng i j))
  | _ => False
theorem wRange_2 {i j : Int} {H : AH} {Q : V → AH → Prop} : wRange [.int i, .int j] H Q = ∀ n, H n = none → Q (.ref n) (H.set n (.rng i j)) := rfl
set_option tactic.hygienic true in
theorem rb_range : RB c d nm (.type "range") wRange := by
  intro A rm L G l H s Q xs vs S rl q
  rcases xs with _ | ⟨x, _ | ⟨y, _ | ⟨z, r⟩⟩⟩
  · exact False.elim q
  · cases x <;> try exact False.elim q
    rename_i i
    obtain ⟨v, rfl, ⟨t, rfl⟩⟩ := reL1 rl
    exact call_range_1 (PV.mk (x := .ref s.heap.objs.size) rfl (S.alloc (o := .rng 0 i) _ ⟨_, _, _, Heap.get?_push_size _ rfl⟩) Ext.push (q _ (S.hs.fresh (zH6 _)).1))
  · cases x <;> try exact False.elim q
    cases y <;> try exact False.elim q
    rename_i i j
    obtain ⟨v, v2, rfl, ⟨t, rfl⟩, ⟨t', rfl⟩⟩ := reL2 rl
    exact call_range_2 (PV.mk (x := .ref s.heap.objs.size) rfl (S.alloc (o := .rng i j) _ ⟨_, _, _, Heap.get?_push_size _ rfl⟩) Ext.push (q _ (S.hs.fresh (zH6 _)).1))
  · cases x <;> try exact False.elim q
    cases y <;> exact False.elim q
noncomputable def zE1 (H : AH) (x : V) : Prop := match x with | .ref a => (match H a with | some (.list _) => True | _ => False) | _ => False
noncomputable def isDict (H : AH) (x : V) : Prop := match x with | .ref a => (match H a with | some (.dictE _) => True | some (.dictI _ _) => True | some (.dictS _) => True | some (.dictT _) => True | _ => False) | _ => False
set_option tactic.hygienic true in
theorem isDict_inv {H : AH} {x : V} (h : isDict H x) : ∃ a, x = .ref a ∧ ((∃ n, H a = some (.dictE n)) ∨ (∃ n es, H a = some (.dictI n es)) ∨ (∃ es, H a = some (.dictS es)) ∨ ∃ n, H a = some (.dictT n)) := by
  cases x <;> try exact False.elim h
  rename_i a
  refine ⟨a, rfl, ?_⟩
  unfold isDict at h
  dsimp only at h
  generalize H a = o at h ⊢
  cases o with
  | none => exact False.elim h
  | some o => cases o <;> first | exact .inl ⟨_, rfl⟩ | exact .inr (.inl ⟨_, _, rfl⟩) | exact .inr (.inr (.inl ⟨_, rfl⟩)) | exact .inr (.inr (.inr ⟨_, rfl⟩)) | exact False.elim h
theorem isList_inv {H x} (h : zE1 H x) : ∃ a xs, x = .ref a ∧ H a = some (.list xs) := by
  cases x <;> try exact False.elim h
  obtain ⟨xs, hx, _⟩ := ao_list (F := fun _ => True) h
  exact ⟨_, _, rfl, hx⟩
noncomputable def kMB (ok : AH → V → Prop) (w : List V → Wp V) (ws : Ls → Wp (List V)) (l : Ls) (Q : V → AH → Prop) (x : V) (H : AH) : Prop := ok H x ∧ ws l H (kM2 w x Q)
noncomputable def zD2 (ok : AH → V → Prop) (wo : Ls → Wp V) (w : List V → Wp V) (ws : Ls → Wp (List V)) (l : Ls) : Wp V := fun H Q => wo l H (kMB ok w ws l Q)
theorem zD7 {o : Expr} {name : Str} {apos pos : Pos} {es : List Expr} {wo : Ls → Wp V} {ws : Ls → Wp (List V)} {w : List V → Wp V} {ok : AH → V → Prop} {id : String} (ho : RE c d qn sc nm o wo) (hf : RB c d nm (.builtin id) w) (hs : REs c d qn sc nm es ws)
    (gm : ∀ {A : Around} {G L l H s x v} {pl : Sem Bool} {Q : Value × List Value → Shared → Prop}, Sm c G L nm l H s → Re s.heap x v → ok H x → Q (.builtin id, [v]) s → wpAny c.M A (getMethod v name pl) Q NoE s)
    (pl : Env → Sem Bool)
    (he : autoParam (∀ env, eval (.Call (.Attribute o name apos) es [] pos) env = (do
      let ov ← eval o env
      standAt apos.atName
      let (f, first) ← holding [ov] (getMethod ov name (pl env))
      callWith pos f first (backTo pos (starEach es env)) [])) auU)
    (hp : autoParam (∀ pos L a cd, (backTo pos (starEach es (envOf qn sc L a cd))).any (·.1) = false) auI) : RE c d qn sc nm (.Call (.Attribute o name apos) es [] pos) (zD2 ok wo w ws) := by
  intro A rm L a cd G l H s Q S q
  refine MethodCall_ (wpAny_mono (ho A rm L a cd G l H s _ S q) (fun ov s1 hz2 => ?_) fun _ _ z => z) (he _)
  obtain ⟨x, H1, r1, S1, e1, ok1, q1⟩ := hz2
  refine gm S1 r1 ok1 ?_
  refine callWith_of (P := fun _ => True) (plainArgs (hp _ _ _ _)) (fun h _ => keeps_bi _ _ h trivial) (wpAny_mono (args_ hs rm S1 q1 (hp _ _ _ _)) (fun a' s2 ⟨ek, xs, H2, rl, S2, e2, q2⟩ => ⟨trivial, ?_⟩) fun _ _ z => z)
  obtain ⟨ap, ak⟩ := a'
  obtain rfl : ak = [] := ek
  exact wpAny_mono (hf A rm L G l H2 s2 _ (x :: xs) _ S2 (ReL.cons (r1.tk e2.tk) rl) q2) (fun _ _ p => p.trans (e1.trans e2)) fun _ _ z => z
theorem gm_list {name : Str} {id : String} (slot : Slot "list" name id) (ht : autoParam (typeOf (.builtin id) = pure (.type "method_descriptor")) auK) {A : Around} {G L l H s x v} {pl : Sem Bool} {Q : Value × List Value → Shared → Prop} (S : Sm c G L nm l H s) (r : Re s.heap x v) (ok : zE1 H x)
    (q : Q (.builtin id, [v]) s) : wpAny c.M A (getMethod v name pl) Q NoE s := by
  obtain ⟨a, xs, rfl, hx⟩ := isList_inv ok
  rw [show v = _ from r] at q ⊢
  obtain ⟨vs, n, g, rl⟩ := S.hs.obj a _ hx
  exact getMethod_builtin ⟨_, g, rfl⟩ F.plainAttrs_list slot ht (fun b e => by cases e; exact ⟨_, g, rfl⟩) q
theorem gm_dict {name : Str} {id : String} (slot : Slot "dict" name id) (ht : autoParam (typeOf (.builtin id) = pure (.type "method_descriptor")) auK) {A : Around} {G L l H s x v} {pl : Sem Bool} {Q : Value × List Value → Shared → Prop} (S : Sm c G L nm l H s) (r : Re s.heap x v) (ok : isDict H x)
    (q : Q (.builtin id, [v]) s) : wpAny c.M A (getMethod v name pl) Q NoE s := by
  have fin : ∀ (a : Addr) (o : Obj), v = .ref a → s.heap.get? a = some o → o.cls = .type "dict" → o.dict = none → wpAny c.M A (getMethod v name pl) Q NoE s := by
    intro a o e g h1 h2
    subst e
    exact getMethod_builtin ⟨_, g, h1⟩ F.plainAttrs_dict slot ht (fun b e => by cases e; exact ⟨_, g, h2⟩) q
  obtain ⟨a, rfl, q⟩ := isDict_inv ok
  rcases q with ⟨n, hx⟩ | ⟨n, es, hx⟩ | ⟨es, hx⟩ | ⟨n, hx⟩
  · exact fin a _ r (S.hs.obj a _ hx) rfl rfl
  · obtain ⟨kvs, ⟨o, es, g, hc, _⟩, _⟩ := S.hs.obj a _ hx; exact fin a o r g hc.1 hc.2.1
  · obtain ⟨kvs, ⟨o, es, ep, g, hc, _⟩, _⟩ := S.hs.obj a _ hx; exact fin a o r g hc.1 hc.2.1
  · obtain ⟨kvs, ⟨o, es, ep, g, hc, _⟩, _⟩ := S.hs.obj a _ hx; exact fin a o r g hc.1 hc.2.1
noncomputable def zD1 (xs : List V) : Wp V := fun H Q => match xs with
  | [.ref a, x] => (match H a with | some (.list ys) => ys.length ≤ 1000000 ∧ Q .none (H.set a (.list (ys ++ [x]))) | _ => False)
  | _ => False
set_option tactic.hygienic true in
theorem zF7 : RB c d nm (.builtin "list.append") zD1 := by
  intro A rm L G l H s Q xs vs S rl q
  rcases xs with _ | ⟨u0, _ | ⟨x, _ | ⟨z, r⟩⟩⟩
  · exact False.elim q
  · cases u0 <;> exact False.elim q
  rotate_left
  · cases u0 <;> exact False.elim q
  cases u0 <;> try exact False.elim q
  · rename_i a
    obtain ⟨v, v2, rfl, rfl, r2⟩ := reL2 rl
    · refine zC5 fun _ hk => ?_
      obtain ⟨ys, hx, q⟩ := ao_list (F := fun ys => ys.length ≤ 1000000 ∧ Q .none (H.set a (.list (ys ++ [x])))) q
      obtain ⟨vs, n, g, r⟩ := S.hs.obj a _ hx
      have hl := r.length
      simp only [Array.length_toList] at hl
      refine hk ?_
      refine append_at g (fun h' k g' => ?_) (line_big (by lia))
      have t := tk_sameBut k g (NT.of_cls (by simp))
      have ho : OR c h' a (.list (ys ++ [x])) := ⟨_, _, g', by rw [Array.toList_push]; exact (r.tk t).append (ReL.cons (r2.tk t) ReL.nil)⟩
      exact PV.mk (x := .none) rfl (S.upd (s' := { s with heap := h' }) hx k ho).1 ⟨t, rfl, rfl⟩ q.2
noncomputable def wExtend (xs : List V) : Wp V := fun H Q => match xs with
  | [.ref a, .ref b] => (match H a, H b with | some (.list ys), some (.list zs) => ys.length + zs.length ≤ 1000000 ∧ Q .none (H.set a (.list (ys ++ zs))) | _, _ => False)
  | _ => False
set_option tactic.hygienic true in
theorem rb_extend : RB c d nm (.builtin "list.extend") wExtend := by
  intro A rm L G l H s Q xs vs S rl q
  rcases xs with _ | ⟨x, _ | ⟨y, _ | ⟨z, r⟩⟩⟩
  · exact False.elim q
  · cases x <;> exact False.elim q
  rotate_left
  · cases x <;> try exact False.elim q
    cases y <;> exact False.elim q
  cases x <;> try exact False.elim q
  cases y <;> try exact False.elim q
  · rename_i a b
    obtain ⟨v, v2, rfl, rfl, rfl⟩ := reL2 rl
    · refine zC5 fun _ hk => ?_
      obtain ⟨ys, zs, hx, hy, q⟩ := ao_list2 (F := fun ys zs => ys.length + zs.length ≤ 1000000 ∧ Q .none (H.set a (.list (ys ++ zs)))) q
      obtain ⟨vs, n, g, r⟩ := S.hs.obj a _ hx
      obtain ⟨us, k, g', r'⟩ := S.hs.obj b _ hy
      have hl := r.length
      have hl' := r'.length
      simp only [Array.length_toList] at hl hl'
      have hz := line_big q.1
      refine hk ?_
      refine call_meets F.slot_list_extend ⟨_, g, rfl⟩ F.entry_list_extend (F.args_list_extend_2 _ _) (AutoSeq1.list_extend_list_list_0 a vs n b us k (extend_door (by lia)) (by lia) (by lia)) ⟨g, g', ?_⟩
      have kk : Heap.SameBut a s.heap (s.heap.update a (Obj.mapSeq (· ++ us))) := Heap.SameBut.update ..
      have t := tk_sameBut kk g (NT.of_cls (by simp))
      obtain ⟨n', hf⟩ : ∃ n', (s.heap.update a (Obj.mapSeq (· ++ us))).get? a = some (listOf (vs ++ us) n') := ⟨_, Heap.get?_update_self _ g rfl⟩
      have ho : OR c (s.heap.update a (Obj.mapSeq (· ++ us))) a (.list (ys ++ zs)) := ⟨_, _, hf, by rw [Array.toList_append]; exact (r.tk t).append (r'.tk t)⟩
      exact PV.mk (x := .none) rfl (S.upd (s' := { s with heap := s.heap.update a (Obj.mapSeq (· ++ us)) }) hx kk ho).1 ⟨t, rfl, rfl⟩ q.2
noncomputable def wGet (xs : List V) : Wp V := fun H Q => match xs with
  | [.ref a, .int i, x] => (match H a with
    | some (.dictI ep es) => Q ((look es i).getD x) H
    | some (.dictE _) => Q x H
    | _ => False)
  | [.ref a, .str i, x] => (match H a with
    | some (.dictS es) => Q ((look es i).getD x) H
    | some (.dictE _) => Q x H
    | _ => False)
  | [.ref a, .tup [.int i, .int j], .int x] => (match H a with
    | some (.dictT n) => ∀ k, Q (.int k) H
    | some (.dictE _) => ∀ k, Q (.int k) H
    | _ => False)
  | _ => False
theorem get_ {K : Type} [DecidableEq K] (knd : KeyKind c.prog c.w K) {A : Around} {G L l H s a key x v} {k : K} {es : List (K × V)} {kvs : List (K × Value)} {Q : V → AH → Prop} (S : Sm c G L nm l H s) (hkey : knd.is k key = true) (hs : a ≠ sysModules) (g : s.heap.DictOf knd a kvs) (rp : ReP s.heap es kvs)
    (r : Re s.heap x v) (q : Q ((look es k).getD x) H) : wpAny c.M A (call (.builtin "dict.get") [.ref a, key, v]) (PV c G L nm l s Q) NoE s := by
  refine call_meetsIn F.slot_dict_get g.typeIs F.entry_dict_get (F.args_dict_get_3 _ _ _) (meets_dict_get_default knd a hkey (beq_eq_false_iff_ne.mpr hs) v) ⟨_, g.mapOf, ?_⟩
  refine PV.mk (x := (look es k).getD x) ?_ S.tok Ext.tok q
  cases z : look es k with
  | none => rw [rp.look_none z]; exact r
  | some X => obtain ⟨u, e, ru⟩ := rp.look_some z; simp only [e]; exact ru
inductive GetI (H : AH) (Q : V → AH → Prop) : List V → Prop
  | int : ∀ a i x ep es, H a = some (.dictI ep es) → Q ((look es i).getD x) H → GetI H Q [.ref a, .int i, x]
  | intE : ∀ a i x ep, H a = some (.dictE ep) → Q x H → GetI H Q [.ref a, .int i, x]
  | str : ∀ a i x es, H a = some (.dictS es) → Q ((look es i).getD x) H → GetI H Q [.ref a, .str i, x]
  | strE : ∀ a i x ep, H a = some (.dictE ep) → Q x H → GetI H Q [.ref a, .str i, x]
  | tup : ∀ a i j x n, H a = some (.dictT n) → (∀ k, Q (.int k) H) → GetI H Q [.ref a, .tup [.int i, .int j], .int x]
  | tupE : ∀ a i j x n, H a = some (.dictE n) → (∀ k, Q (.int k) H) → GetI H Q [.ref a, .tup [.int i, .int j], .int x]
theorem get_tup {H : AH} {Q : V → AH → Prop} {a : Addr} {ks : List V} {x : V} {r : List V} (q : wGet (.ref a :: .tup ks :: x :: r) H Q) : GetI H Q (.ref a :: .tup ks :: x :: r) := by
  rcases ks with _ | ⟨k1, ks⟩
  · exact False.elim q
  cases k1 <;> try exact False.elim q
  rcases ks with _ | ⟨k2, ks⟩
  · exact False.elim q
  cases k2 <;> try exact False.elim q
  rcases ks with _ | ⟨k3, ks⟩
  rotate_left
  · exact False.elim q
  cases x <;> try exact False.elim q
  rcases r with _ | ⟨u, r⟩
  rotate_left
  · exact False.elim q
  rcases ao_dictT (F := fun _ => ∀ k, Q (.int k) H) (E := fun _ => ∀ k, Q (.int k) H) q with ⟨n, hx, q⟩ | ⟨ep, hx, q⟩
  · exact .tup _ _ _ _ _ hx q
  · exact .tupE _ _ _ _ _ hx q
set_option tactic.hygienic true in
theorem get_inv {xs : List V} {H : AH} {Q : V → AH → Prop} (q : wGet xs H Q) : GetI H Q xs := by
  rcases xs with _ | ⟨u0, xs⟩
  · exact False.elim q
  cases u0 <;> try exact False.elim q
  rcases xs with _ | ⟨y, xs⟩
  · exact False.elim q
  cases y <;> try exact False.elim q
  all_goals rcases xs with _ | ⟨x, xs⟩
  · exact False.elim q
  · rcases xs with _ | ⟨u, xs⟩
    · rcases ao_dict q with ⟨ep, es, hx, q⟩ | ⟨ep, hx, q⟩
      · exact .int _ _ _ _ _ hx q
      · exact .intE _ _ _ _ hx q
    · exact False.elim q
  · exact False.elim q
  · rcases xs with _ | ⟨u, xs⟩
    · rcases ao_dictS q with ⟨es, hx, q⟩ | ⟨ep, hx, q⟩
      · exact .str _ _ _ _ hx q
      · exact .strE _ _ _ _ hx q
    · exact False.elim q
  · rename_i ks
    rcases ks with _ | ⟨k1, ks⟩
    · exact False.elim q
    cases k1 <;> try exact False.elim q
    rcases ks with _ | ⟨k2, ks⟩
    · exact False.elim q
    cases k2 <;> try exact False.elim q
    rcases ks with _ | ⟨k3, ks⟩ <;> exact False.elim q
  · exact get_tup q
theorem rb_get : RB c d nm (.builtin "dict.get") wGet := by
  intro A rm L G l H s Q xs vs S rl q
  have tp : ∀ a i j x (o : AO), H a = some o → (∃ n, o = .dictT n ∨ o = .dictE n) → (∀ k, Q (.int k) H) → ReL s.heap [.ref a, .tup [.int i, .int j], .int x] vs → wpAny c.M A (call (.builtin "dict.get") vs) (PV c G L nm l s Q) NoE s := by
    intro a i j x o hx ho q rl
    obtain ⟨v, v2, v3, rfl, rfl, r2, ⟨t3, rfl⟩⟩ := reL3 rl
    obtain ⟨t, rfl, hk⟩ := tupKey (prog := c.prog) (w := c.w) r2
    have fin : ∀ {o : AO} {xs : List (List Int × Addr × Value)}, H a = some o → o.isD = true → s.heap.DictOfH (tupleKind (intKind c.prog c.w)) a xs → (∀ x ∈ xs, ∃ i t, x.2.2 = .int i t) → (∀ k, Q (.int k) H) →
        wpAny c.M A (call (.builtin "dict.get") [.ref a, .ref t, .int x t3]) (PV c G L nm l s Q) NoE s := by
      intro o xs hx hD g hv q
      refine call_meetsIn F.slot_dict_get g.typeIs F.entry_dict_get (F.args_dict_get_3 _ _ _) (meetsH_dict_get_default (knd := tupleKind (intKind c.prog c.w)) (d := a) (a := t) (beq_eq_false_iff_ne.mpr (S.hs.ns a _ hx hD)) _) ⟨?_, [i, j], xs, hk, g, ?_⟩
      · exact tupleKind_room_in1 (by have := rm.eq64; lia)
      refine zC5 fun _ hk => ?_
      have e : ∃ k t, ((atKey xs [i, j]).map (·.2)).getD (.int x t3) = .int k t := by
        unfold atKey
        cases z : xs.find? (fun x => decide (x.1 = [i, j])) with
        | none => exact ⟨x, t3, rfl⟩
        | some y =>
          obtain ⟨i', t', e⟩ := hv y (List.mem_of_find?_eq_some z)
          exact ⟨i', t', e⟩
      obtain ⟨k, t', e⟩ := e
      refine hk ?_
      simp only [e]
      exact PV.mk (x := .int k) ⟨_, rfl⟩ S.tok Ext.tok (q k)
    obtain ⟨n, rfl | rfl⟩ := ho
    · refine zC5 fun _ hk => ?_
      obtain ⟨xs, g, h1, h2⟩ := S.hs.obj a _ hx
      refine hk ?_
      exact fin hx rfl g h1 q
    · exact fin hx rfl (DictT_of (S.hs.obj a _ hx)) (by simp) q
  replace q := get_inv q
  cases q with
  | int a i x ep es hx q =>
    obtain ⟨v, v2, v3, rfl, rfl, ⟨t, rfl⟩, r3⟩ := reL3 rl
    obtain ⟨kvs, g, rp⟩ := S.hs.obj a _ hx
    exact get_ (intKind c.prog c.w) S (intKind_is _ _ i t) (S.hs.ns a _ hx rfl) g.dictOf rp r3 q
  | intE a i x ep hx q =>
    obtain ⟨v, v2, v3, rfl, rfl, ⟨t, rfl⟩, r3⟩ := reL3 rl
    exact get_ (intKind c.prog c.w) (es := []) S (intKind_is _ _ i t) (S.hs.ns a _ hx rfl) (DictE_of _ (S.hs.obj a _ hx)) rfl r3 q
  | str a i x es hx q =>
    obtain ⟨v, v2, v3, rfl, rfl, ⟨t, rfl⟩, r3⟩ := reL3 rl
    obtain ⟨kvs, g, rp⟩ := S.hs.obj a _ hx
    exact get_ (PySem.strKind c.prog c.w) S (strKind_is _ _ i t) (S.hs.ns a _ hx rfl) g rp r3 q
  | strE a i x ep hx q =>
    obtain ⟨v, v2, v3, rfl, rfl, ⟨t, rfl⟩, r3⟩ := reL3 rl
    exact get_ (PySem.strKind c.prog c.w) (es := []) S (strKind_is _ _ i t) (S.hs.ns a _ hx rfl) (DictE_of _ (S.hs.obj a _ hx)) rfl r3 q
  | tup a i j x n hx q => exact tp a i j x _ hx ⟨n, .inl rfl⟩ q rl
  | tupE a i j x n hx q => exact tp a i j x _ hx ⟨n, .inr rfl⟩ q rl
noncomputable def wSetD (xs : List V) : Wp V := fun H Q => match xs with
  | [.ref a, .int i, x] => (match H a with
    | some (.dictI ep es) => es.length ≤ 1000000 ∧ (match look es i with | some X => Q X H | none => ∀ ep', Q x (H.set a (.dictI ep' (dput es i x))))
    | some (.dictE _) => ∀ ep', Q x (H.set a (.dictI ep' [(i, x)]))
    | _ => False)
  | _ => False
set_option tactic.hygienic true in
theorem rb_setd : RB c d nm (.builtin "dict.setdefault") wSetD := by
  intro A rm L G l H s Q xs vs S rl q
  have fin : ∀ {a : Addr} {i : Int} {t : Tok} {x : V} {v : Value} {es : List (Int × V)} {kvs : List (Int × Value)} {o : AO}, H a = some o → (∀ C d fs, o ≠ .inst C d fs) → (∀ b, o ≠ .own b) → o.isD = true → s.heap.DictOf (intKind c.prog c.w) a kvs → ReP s.heap es kvs → Re s.heap x v → es.length ≤ 1000000 →
      (match look es i with | some X => Q X H | none => ∀ ep', Q x (H.set a (.dictI ep' (dput es i x)))) → wpAny c.M A (call (.builtin "dict.setdefault") [.ref a, .int i t, v]) (PV c G L nm l s Q) NoE s := by
    intro a i t x v es kvs o hx hi hw hD g rp r hz q
    refine call_meetsIn F.slot_dict_setdefault g.typeIs F.entry_dict_setdefault (F.args_dict_setdefault_3 _ _ _) (kt_meets_setdefault (intKind c.prog c.w) a (intKind_is _ _ i t) (beq_eq_false_iff_ne.mpr (S.hs.ns a _ hx hD)) v) ⟨kvs, g, by rw [rp.length]; exact line_big hz, fun u hu => ?_, fun hn h' g' k => ?_⟩
    · cases z : look es i with
      | none => rw [rp.look_none z] at hu; injection hu
      | some X =>
        refine zC5 fun _ hk => ?_
        obtain ⟨u', e, ru⟩ := rp.look_some z
        rw [hu] at e; obtain rfl := Option.some.inj e
        rw [z] at q
        refine hk ?_
        exact PV.mk ru S.tok Ext.tok q
    · cases z : look es i with
      | some X => obtain ⟨u', e, ru⟩ := rp.look_some z; rw [hn] at e; injection e
      | none =>
        refine zC5 fun _ hk => ?_
        rw [z] at q
        obtain ⟨ob, eo, nt⟩ := (S.hs.obj a _ hx).get
        have tt := tk_sameBut k eo nt
        obtain ⟨ep, g'⟩ := g'.dictAt
        obtain ⟨S', _⟩ := S.upd (s' := { s with heap := h', toks := s.toks + 1 }) (o' := .dictI ep (dput es i x)) hx k ⟨_, g', (rp.tk tt).put (r.tk tt)⟩ hi hw (hd := by rw [hD, Bool.or_true])
        refine hk ?_
        exact PV.mk (r.tk tt) S' ⟨tt, rfl, rfl⟩ (q ep)
  rcases xs with _ | ⟨u0, _ | ⟨y, _ | ⟨x, _ | ⟨u, r⟩⟩⟩⟩
  · exact False.elim q
  · cases u0 <;> exact False.elim q
  · cases u0 <;> try exact False.elim q
    cases y <;> exact False.elim q
  rotate_left
  · cases u0 <;> try exact False.elim q
    cases y <;> exact False.elim q
  cases u0 <;> try exact False.elim q
  cases y <;> try exact False.elim q
  · rename_i a i
    obtain ⟨v, v2, v3, rfl, rfl, ⟨t, rfl⟩, r3⟩ := reL3 rl
    rcases ao_dict (F := fun ep es => es.length ≤ 1000000 ∧ (match look es i with | some X => Q X H | none => ∀ ep', Q x (H.set a (.dictI ep' (dput es i x))))) (E := fun _ => ∀ ep', Q x (H.set a (.dictI ep' [(i, x)]))) q with ⟨ep, es, hx, q⟩ | ⟨ep, hx, q⟩
    · obtain ⟨kvs, g, rp⟩ := S.hs.obj a _ hx
      exact fin hx (by intro _ _ _ q; injection q) (by intro _ q; injection q) rfl g.dictOf rp r3 q.1 q.2
    · exact fin (es := []) hx (by intro _ _ _ q; injection q) (by intro _ q; injection q) rfl (DictE_of _ (S.hs.obj a _ hx)) rfl r3 (by simp) q
noncomputable def wInB (f : Bool → Bool) (x y : V) : Wp V := fun H Q => match y with
  | .ref a => (match x with
    | .int i => (match H a with
      | some (.dictI ep es) => Q (.bool (f (look es i).isSome)) H
      | some (.dictE _) => Q (.bool (f false)) H
      | some (.list xs) => okVs 5 xs = true ∧ Q (.bool (f ((toPs xs).any fun y => PyData.eqv y (.int i)))) H
      | _ => False)
    | x => (match H a with
      | some (.list xs) => (okV 5 x = true ∧ okVs 5 xs = true) ∧ Q (.bool (f ((toPs xs).any fun y => PyData.eqv y (toP x)))) H
      | _ => False))
  | _ => False
inductive InI (f : Bool → Bool) (H : AH) (Q : V → AH → Prop) : V → V → Prop
  | dict : ∀ a i ep es, H a = some (.dictI ep es) → Q (.bool (f (look es i).isSome)) H → InI f H Q (.int i) (.ref a)
  | dictE : ∀ a i ep, H a = some (.dictE ep) → Q (.bool (f false)) H → InI f H Q (.int i) (.ref a)
  | list : ∀ a x xs, H a = some (.list xs) → okV 5 x = true → okVs 5 xs = true → Q (.bool (f ((toPs xs).any fun y => PyData.eqv y (toP x)))) H → InI f H Q x (.ref a)
set_option tactic.hygienic true in
theorem in_inv {f : Bool → Bool} {x y : V} {H : AH} {Q : V → AH → Prop} (w : wInB f x y H Q) : InI f H Q x y := by
  cases y <;> try exact False.elim w
  rename_i a
  have gen : (match H a with
      | some (.list xs) => (okV 5 x = true ∧ okVs 5 xs = true) ∧ Q (.bool (f ((toPs xs).any fun y => PyData.eqv y (toP x)))) H
      | _ => False) → InI f H Q x (.ref a) := fun w => by
    obtain ⟨xs, hx, w1, w2⟩ := ao_list (F := fun xs => (okV 5 x = true ∧ okVs 5 xs = true) ∧ Q (.bool (f ((toPs xs).any fun y => PyData.eqv y (toP x)))) H) w
    exact .list _ _ _ hx w1.1 w1.2 w2
  cases x
  case int i =>
    unfold wInB at w
    dsimp only at w
    clear gen
    generalize hx : H a = o at w
    cases o with
    | none => exact False.elim w
    | some o => cases o <;> first | exact .dict _ _ _ _ hx w | exact .dictE _ _ _ hx w | exact .list _ _ _ hx rfl w.1 w.2 | exact False.elim w
  all_goals exact gen w
theorem in_list_ {A} (rm : Room A d) {G L l H s x u a xs} {Q : Value → Shared → Prop} (S : Sm c G L nm l H s) (hx : H a = some (.list xs)) (r : Re s.heap x u) (h1 : okV 5 x = true) (h2 : okVs 5 xs = true)
    (q : Q (.bool ((toPs xs).any fun y => PyData.eqv y (toP x))) s) : wpAny c.M A (compareOp .In u (.ref a)) Q NoE s := by
  refine zC5 fun _ hk => ?_
  obtain ⟨vs, n, g, rl⟩ := S.hs.obj a _ hx
  obtain ⟨as, r1⟩ := reL_reads rl h2
  obtain ⟨bs, r2⟩ := re_reads r h1
  have l1 := oks_lay h2
  have l2 := ok_lay h1
  have := rm.eq64
  refine hk ?_
  exact in_list_reads (reads_list_at g rfl rfl r1) r2 l1.1 l2.1 (by lia) q
theorem notIn_list_ {A} (rm : Room A d) {G L l H s x u a xs} {Q : Value → Shared → Prop} (S : Sm c G L nm l H s) (hx : H a = some (.list xs)) (r : Re s.heap x u) (h1 : okV 5 x = true) (h2 : okVs 5 xs = true)
    (q : Q (.bool (!(toPs xs).any fun y => PyData.eqv y (toP x))) s) : wpAny c.M A (compareOp .NotIn u (.ref a)) Q NoE s := by
  refine zC5 fun _ hk => ?_
  obtain ⟨vs, n, g, rl⟩ := S.hs.obj a _ hx
  obtain ⟨as, r1⟩ := reL_reads rl h2
  obtain ⟨bs, r2⟩ := re_reads r h1
  have l1 := oks_lay h2
  have l2 := ok_lay h1
  have := rm.eq64
  refine hk ?_
  exact notIn_list_reads (reads_list_at g rfl rfl r1) r2 l1.1 l2.1 (by lia) q
theorem rv_in : RV2 c d nm (compareOp .In) (wInB id) := by
  intro A rm L G l H s Q x y u v S rx ry w
  replace w := in_inv w
  cases w with
  | dict a i ep es hx w =>
    rw [show v = _ from ry]
    obtain ⟨t, rfl⟩ := rx
    obtain ⟨kvs, g, rp⟩ := S.hs.obj a _ hx
    refine wpAny_in_of (intKind_is _ _ i t) (beq_eq_false_iff_ne.mpr (S.hs.ns a _ hx rfl)) g.dictOf.mapOf (PV.mk (x := .bool _) rfl S.tok Ext.tok ?_)
    rw [rp.look_isSome]; exact w
  | dictE a i ep hx w =>
    rw [show v = _ from ry]
    obtain ⟨t, rfl⟩ := rx
    exact wpAny_in_of (intKind_is _ _ i t) (beq_eq_false_iff_ne.mpr (S.hs.ns a _ hx rfl)) (DictE_of (intKind c.prog c.w) (S.hs.obj a _ hx)).mapOf (PV.mk (x := .bool _) rfl S.tok Ext.tok w)
  | list a _ xs hx w1 w2 w3 =>
    rw [show v = _ from ry]
    exact in_list_ rm S hx rx w1 w2 (PV.mk (x := .bool _) rfl S (Ext.refl _) w3)
theorem rv_notIn : RV2 c d nm (compareOp .NotIn) (wInB not) := by
  intro A rm L G l H s Q x y u v S rx ry w
  replace w := in_inv w
  cases w with
  | dict a i ep es hx w =>
    rw [show v = _ from ry]
    obtain ⟨t, rfl⟩ := rx
    obtain ⟨kvs, g, rp⟩ := S.hs.obj a _ hx
    refine wpAny_notIn_of (intKind_is _ _ i t) (beq_eq_false_iff_ne.mpr (S.hs.ns a _ hx rfl)) g.dictOf.mapOf (PV.mk (x := .bool _) rfl S.tok Ext.tok ?_)
    rw [rp.look_isSome]; exact w
  | dictE a i ep hx w =>
    rw [show v = _ from ry]
    obtain ⟨t, rfl⟩ := rx
    exact wpAny_notIn_of (intKind_is _ _ i t) (beq_eq_false_iff_ne.mpr (S.hs.ns a _ hx rfl)) (DictE_of (intKind c.prog c.w) (S.hs.obj a _ hx)).mapOf (PV.mk (x := .bool _) rfl S.tok Ext.tok w)
  | list a _ xs hx w1 w2 w3 =>
    rw [show v = _ from ry]
    exact notIn_list_ rm S hx rx w1 w2 (PV.mk (x := .bool _) rfl S (Ext.refl _) w3)
end
end
section
theorem RF.mono {c : Cx} {d e : Nat} {f : Addr} {w : List V → Wp V} (h : RF c d f w) (le : d ≤ e) : RF c e f w := fun A r => h A (r.le le)
section
variable {c : Cx} {d : Nat} {qn : Str} {sc : Scope} {nm : List Str}
noncomputable def kAT2 (Q : Fl → AH → Prop) (l : Ls) (H : AH) : Prop := Q (.next l) H
noncomputable def kAT1 (tg : V → Ls → AH → (Ls → AH → Prop) → Prop) (l : Ls) (Q : Fl → AH → Prop) (x : V) (H : AH) : Prop := tg x l H (kAT2 Q)
noncomputable def wAsgT (w : Ls → Wp V) (tg : V → Ls → AH → (Ls → AH → Prop) → Prop) (l : Ls) : Wp Fl := fun H Q => w l H (kAT1 tg l Q)
theorem rs_asgT {elts k tpos value pos} {w : Ls → Wp V} {tg : V → Ls → AH → (Ls → AH → Prop) → Prop} (h : RE c d qn sc nm value w) (ht : TG c d qn sc nm (.Tuple elts k tpos) tg)
    (hs : autoParam (∀ L a cd, swapsWithSole [.Tuple elts k tpos] value pos.line (envOf qn sc L a cd) = pure false) auI)
    (hw : autoParam (∀ L a cd, swappedStores [.Tuple elts k tpos] value (envOf qn sc L a cd) = pure none) auI) : RS c d qn sc nm (.Assign [.Tuple elts k tpos] value pos) (wAsgT w tg) := by
  intro A rm L a cd G l H s Q S q
  refine Assign_Tuple (wpAny_mono (h A rm L a cd G l H s _ S q) (fun v s1 hz2 => ?_) fun _ _ z => z) (hs _ _ _) (hw _ _ _)
  obtain ⟨X, H1, r, S1, e, q1⟩ := hz2
  exact wpAny_mono (ht A rm L a cd G l H1 s1 _ X v S1 r q1) (fun _ s2 ⟨l2, H2, S2, e2, q2⟩ => ⟨H2, e.trans e2, l2, S2, q2⟩) fun _ _ z => z
noncomputable def kSw (i j : Nat) (l : Ls) (Q : Fl → AH → Prop) (x : V) (H : AH) : Prop := match x with | .tup [u, v] => Q (.next ((l.set j (some v)).set i (some u))) H | _ => False
theorem kSw_inv {i j : Nat} {l : Ls} {Q : Fl → AH → Prop} {x : V} {H : AH} (q : kSw i j l Q x H) : ∃ u v, x = .tup [u, v] ∧ Q (.next ((l.set j (some v)).set i (some u))) H := by
  cases x with
  | tup xs =>
    rcases xs with _ | ⟨u, _ | ⟨v, _ | ⟨w, r⟩⟩⟩
    · exact q.elim
    · exact q.elim
    · exact ⟨u, v, rfl, q⟩
    · exact q.elim
  | _ => exact q.elim
theorem kSw_p {i j : Nat} {l : Ls} {Q : Fl → AH → Prop} {u v : V} {H : AH} : kSw i j l Q (.tup [u, v]) H = Q (.next ((l.set j (some v)).set i (some u))) H := rfl
noncomputable def wAsgSw (w : Ls → Wp V) (i j : Nat) (l : Ls) : Wp Fl := fun H Q => w l H (kSw i j l Q)
theorem rs_asgSw {x y : Str} {k tpos value pos p1 p2} {w : Ls → Wp V} (i j : Nat) (h : RE c d qn sc nm value w) (hi : autoParam (nm[i]? = some x) auK) (hj : autoParam (nm[j]? = some y) auK) (hnd : autoParam (nm.Nodup) auA) (hx : autoParam (sc.names.lookup x = some .local) auK) (hy : autoParam (sc.names.lookup y = some .local) auK) (hk : autoParam (sc.kind = .function) auK)
    (hs : autoParam (∀ L a cd, swapsWithSole [.Tuple [.Name x p1, .Name y p2] k tpos] value pos.line (envOf qn sc L a cd) = pure false) auI)
    (hw : autoParam (∀ L a cd, swappedStores [.Tuple [.Name x p1, .Name y p2] k tpos] value (envOf qn sc L a cd) = pure (some [x, y])) auI) : RS c d qn sc nm (.Assign [.Tuple [.Name x p1, .Name y p2] k tpos] value pos) (wAsgSw w i j) := by
  intro A rm L a cd G l H s Q S q
  refine Assign_Tuple_swapped (wpAny_mono (h A rm L a cd G l H s _ S q) (fun v s1 hz2 => ?_) fun _ _ z => z) (hs _ _ _) (hw _ _ _)
  obtain ⟨X, H1, r, S1, e, q1⟩ := hz2
  obtain ⟨u, v, rfl, q1⟩ := kSw_inv q1
  · obtain ⟨t, its, rfl, ht, rl⟩ := r
    obtain ⟨u', vs, e1, r1, w', vs', e2, r2, e3⟩ := rl
    rw [show vs' = _ from e3] at e2
    rw [e2] at e1
    have hz : its.size = 2 := by simp only [← Array.length_toList, e1]; rfl
    show wpAny _ _ (unpackItems (.ref t) 2 none) _ _ _
    rw [← hz]
    refine unpackItems_tuple rm.1 ht fun h' k' => ?_
    have ek := ext_tk k'
    have S2 : Sm c G L nm l H1 { s1 with heap := h' } := S1.step ek
    rw [e1]
    show wpAny _ _ (assignInOrder [fun v => bindName (envOf qn sc L a cd) y v, fun v => bindName (envOf qn sc L a cd) x v] [w', u']) _ _ _
    refine wpAny_bind (wpAny_holding (wpAny_bindName (store_ j S2 (r2.tk (Tk.of_keep ek)) hj hnd hy hk fun s2 S3 e4 => ?_)))
    refine wpAny_bind (wpAny_holding (wpAny_bindName (store_ i S3 ((r1.tk (Tk.of_keep ek)).tk e4.tk) hi hnd hx hk fun s3 S4 e5 => wpAny_pure ?_)))
    exact ⟨_, e.trans (Ext.trans (show Ext s1 { s1 with heap := h' } from ⟨Tk.of_keep ek, rfl, rfl⟩) (e4.trans e5)), _, S4, q1⟩
end
end
section
theorem HS.add {c : Cx} {G H s} (S : HS c G H s) {D : Addr} {o : AO} (hH : H D = none) (hG : G D = none) (ho : OR c s.heap D o) (hi : ∀ C d fs, o ≠ .inst C d fs) (hd : o.isD = false) : HS c G (H.set D o) s where
  base := S.base
  prot := S.prot
  obj := fun a x e => by
    by_cases q : a = D
    · subst q; rw [AH.set_self] at e; obtain rfl := Option.some.inj e; exact ho
    · rw [AH.set_ne _ _ q] at e; exact S.obj a x e
  disj := fun a e => by
    by_cases q : a = D
    · subst q; exact hG
    · rw [AH.set_ne _ _ q] at e; exact S.disj a e
  wf := fun a C d fs e => by
    by_cases q : a = D
    · subst q; rw [AH.set_self] at e; obtain rfl := Option.some.inj e; exact absurd rfl (hi C d fs)
    · rw [AH.set_ne _ _ q] at e
      have w := S.wf a C d fs e
      rw [AH.set_ne]
      · exact w
      · intro z; simp only [z, hH] at w; injection w
  ns := fun a x e dd => by
    by_cases q : a = D
    · subst q; rw [AH.set_self] at e; obtain rfl := Option.some.inj e; rw [hd] at dd; injection dd
    · rw [AH.set_ne _ _ q] at e; exact S.ns a x e dd
theorem Sm.add {c : Cx} {G L nm l H s} (S : Sm c G L nm l H s) {D : Addr} {o : AO} (hH : H D = none) (hG : G D = none) (hL : L ≠ D) (ho : OR c s.heap D o) (hi : autoParam (∀ C d fs, o ≠ .inst C d fs) auN) (hd : autoParam (o.isD = false) auR) : Sm c G L nm l (H.set D o) s :=
  ⟨S.hs.add hH hG ho hi hd, S.gL, by rw [AH.set_ne _ _ hL]; exact S.hL, S.fr⟩
theorem attr_int {c : Cx} {A : Around} {E : Value → Shared → Prop} {G H s} (S : HS c G H s) {b C dd : Addr} {fs : List (Str × V)} {name : Str} {i : Int} {expr : Bool} (hx : H b = some (.inst C dd fs)) (hf : fs.lookup name = some (.int i))
    {s3 : Shared} (kb : ∀ a o, s.heap.get? a = some o → s3.heap.get? a = some o) {Q : Value → Shared → Prop} (q : ∀ t, Q (.int i t) { s3 with toks := s3.toks + 1 }) : wpAny c.M A (getAttr (.ref b) name expr) Q E s3 := by
  refine zC5 fun _ hk => ?_
  obtain ⟨m, g, N, rn, hfs⟩ := S.obj b _ hx
  have S3 : c.K.In s3.heap := c.X.keeps fun a o e => kb a o (S.keep a o e)
  obtain ⟨o, ho, I⟩ := instAt (kb _ _ g) (N.ns.keeps kb)
  obtain ⟨p1, p2, ⟨attr, p3, p4⟩, _⟩ := attr_parts (c.attr (hfs name (by rw [hf]; simp)))
  have r := rn name
  rw [hf] at r
  obtain ⟨v, hv, t, rfl⟩ := r
  have hl : lookIn name o = some (some (.int i t)) := by simp only [lookIn_of (N.ns.keeps kb) ho name, hv]
  refine hk ?_
  exact get_value S3 I (plainGet_of p1).1 (findObj_own p2 p3 p4 hl) rfl (q t)
theorem reL_filter {h : Heap} (p : V → Bool) (pv : Value → Bool) : ∀ {xs : List V} {vs : List Value}, ReL h xs vs → (∀ x ∈ xs, ∀ v, Re h x v → pv v = p x) → ReL h (xs.filter p) (vs.filter pv) := by
  intro zz
  induction zz with
  | nil =>
    intro _ e _
    rw [show _ = [] from e]; rfl
  | cons x xs ih =>
    intro _ hz1 hp
    refine zC5 fun _ hk => ?_
    obtain ⟨v, vs', e, r, l⟩ := hz1
    refine hk ?_
    subst e
    have e := hp x (.head _) v r
    have ih := ih l fun y hy => hp y (.tail _ hy)
    simp only [List.filter_cons, List.filter_cons, e]
    split
    · exact ReL.cons r ih
    · exact ih
section
variable {c : Cx} {d : Nat} {qn : Str} {sc : Scope} {nm : List Str}
noncomputable def wFilt (i : Nat) (m n : Str) (l : Ls) : Wp V := fun H Q => ∃ a xs p, l[i]? = some (some (.ref a)) ∧ H a = some (.list xs) ∧ xs.length ≤ 1000000 ∧
  (∀ y ∈ xs, ∃ b C dd fs i j, y = .ref b ∧ H b = some (.inst C dd fs) ∧ fs.lookup m = some (.int i) ∧ fs.lookup n = some (.int j) ∧ p y = decide (j < i)) ∧ ∀ k, H k = none → Q (.ref k) (H.set k (.list (xs.filter p)))
theorem re_filt {x y m n : Str} {p0 px py p1 p2 pa pb pc pos : Pos} {scope : Scope} (i : Nat) (hi : autoParam (nm[i]? = some y) auK) (hk : autoParam (sc.kind = .function) auK) (hy : autoParam (sc.names.lookup y = some .local) auK) (hdy : autoParam ((y == ("__debug__" : Str)) = false) auK)
    (hclos : autoParam (∀ L a cd, closureFor scope (envOf qn sc L a cd) = pure []) auI) (hcell : autoParam (∀ y ∈ scope.names, y.2 ≠ .cell) auD) (hkind : autoParam (scope.kind = .function) auR)
    (hnames : autoParam (∀ y ∈ scope.names, y.2 = .local → scope.names.lookup y.1 = some .local) auD) (hx : autoParam (scope.names.lookup x = some .local) auR)
    (hd : autoParam ((x == ("__debug__" : Str)) = false) auK)
    (hs : autoParam (∀ L a cd v, foldedSetIterable (.Name y py) (envOf qn sc L a cd) v = pure v) auI) :
    RE c d qn sc nm (.ListComp (.Name x p0) [⟨.Name x px, .Name y py, [.Compare (.Attribute (.Name x p1) m pa) [.Gt] [.Attribute (.Name x p2) n pb] pc], 0⟩] scope pos) (wFilt i m n) := by
  intro A rm L a cd G l H s Q S q
  have key : ∀ (p : V → Bool), wpAny c.M A (eval (.Name y py) (envOf qn sc L a cd)) (fun xv s1 => ∃ H1 b xs, xv = .ref b ∧ Sm c G L nm l H1 s1 ∧ Ext s s1 ∧ H1 b = some (.list xs) ∧ xs.length ≤ 1000000 ∧
      (∀ y ∈ xs, ∃ b C dd fs i j, y = .ref b ∧ H1 b = some (.inst C dd fs) ∧ fs.lookup m = some (.int i) ∧ fs.lookup n = some (.int j) ∧ p y = decide (j < i)) ∧ ∀ k, H1 k = none → Q (.ref k) (H1.set k (.list (xs.filter p)))) NoE s →
      wpAny c.M A (eval (.ListComp (.Name x p0) [⟨.Name x px, .Name y py, [.Compare (.Attribute (.Name x p1) m pa) [.Gt] [.Attribute (.Name x p2) n pb] pc], 0⟩] scope pos) (envOf qn sc L a cd)) (PV c G L nm l s Q) NoE s := by
    intro p hz
    refine wpAny_ListComp_free (fun v => match v with | .ref b => p (.ref b) | _ => false) (fun v y => y = v) (hclos _ _ _) hcell hkind hnames hx (wpAny_mono hz (fun xv s1 hh => ?_) fun _ _ z => z) (hs _ _ _)
    refine zC5 fun _ hk => ?_
    obtain ⟨H1, b, xs, rfl, S1, e1, hxs, hlen, hel, hq⟩ := hh
    obtain ⟨vs, k, g, rl⟩ := S1.hs.obj b _ hxs
    have hl := rl.length
    simp only [Array.length_toList] at hl
    have hb : b < s1.heap.objs.size := Heap.lt_size g
    refine hk ?_
    refine wpAny_pyIter_list ⟨_, g, rfl, k, rfl⟩ ?_
    have kp : ∀ a' o, s1.heap.get? a' = some o → (s1.heap.push { cls := .type "list_iterator", data := .fields #[.ref b, .int 0 0] }).get? a' = some o := fun _ _ e => Heap.get?_push_of_some _ e
    have ne : ∀ a' o, s1.heap.get? a' = some o → a' ∉ [s1.heap.objs.size] := fun a' o e hm => by
      rw [List.mem_singleton] at hm; exact absurd (Heap.lt_size e) (by rw [hm]; exact Nat.lt_irrefl _)
    refine ⟨s1.heap.objs.size, _, _, _, _, _, rfl, Walks.list rm.1 s1.heap.objs.size b (Nat.ne_of_lt hb) vs, line_big (by lia), ⟨⟨_, Heap.get?_push_size _ rfl, rfl, rfl⟩, ⟨_, kp _ _ g, rfl, k, rfl⟩⟩, ?_, ⟨?_, ?_⟩, ?_⟩
    · intro a' ha'
      show a' < (s1.heap.push _).objs.size
      rw [Heap.size_push]
      rcases List.mem_cons.mp ha' with rfl | ha'
      · exact Nat.lt_succ_self _
      · rw [List.mem_singleton.mp ha']; exact Nat.lt_succ_of_lt hb
    · intro C i v s3 m3 E' hC hP hn hm hk ht
      have hv : vs.toList[i]? = some v := by rw [Array.getElem?_toList]; exact hP
      obtain ⟨y, hy, ry⟩ : ∃ y, xs[i]? = some y ∧ Re s1.heap y v := by
        cases z : xs[i]? with
        | none => rw [List.getElem?_eq_none_iff] at z; rw [List.getElem?_eq_none (by simp only [Array.length_toList]; lia)] at hv; injection hv
        | some y => obtain ⟨v', e', r'⟩ := rl.get z; rw [hv] at e'; obtain rfl := Option.some.inj e'; exact ⟨y, rfl, r'⟩
      obtain ⟨b', C', dd, fs, i1, j1, rfl, hb', h1, h2, hp⟩ := hel y (List.mem_of_getElem? hy)
      obtain rfl : v = .ref b' := ry
      have kb : ∀ a' o, s1.heap.get? a' = some o → s3.heap.get? a' = some o := fun a' o e => hk a' o (ne a' o e) (kp a' o e)
      have name : ∀ {s4 : Shared} {pp : Pos} {Q' : Value → Shared → Prop}, s4.heap.Ns C m3 → Q' (.ref b') s4 → wpAny c.M A (eval (.Name x pp) (compEnvC scope [] C (envOf qn sc L a cd))) Q' E' s4 :=
        fun hn' hq' => wpAny_Name (wpAny_loadName_local (env := compEnvC scope [] C (envOf qn sc L a cd)) (by simp [compEnvC, relabel, hkind]) (lookup_relabel_local hx) hn' hm hq') hd
      have at1 : ∀ {s4 : Shared} {nmm : Str} {iv : Int} {pp pq : Pos} {Q' : Value → Shared → Prop}, fs.lookup nmm = some (.int iv) → s4.heap = s3.heap → (∀ t, Q' (.int iv t) { s4 with toks := s4.toks + 1 }) →
          wpAny c.M A (eval (.Attribute (.Name x pp) nmm pq) (compEnvC scope [] C (envOf qn sc L a cd))) Q' E' s4 := by
        intro s4 nmm iv pp pq Q' hf he hq'
        refine Attribute_any_ (name (by rw [he]; exact hn) (attr_int S1.hs hb' hf (by rw [he]; exact kb) hq')) (by with_unfolding_all rfl)
      simp only [List.forIn_cons, List.forIn_nil, if_true]
      refine wpAny_bind (wpAny_bind (wpAny_isTrue_Compare1 (at1 h1 rfl fun t1 => at1 h2 rfl fun t2 => PyProof.Rows.gt_int (wpAny_truthy_bool (wpAny_pure (wpAny_pure ?_))))))
      exact ⟨hp.symm, s3.heap, _, rfl, fun _ _ e => e⟩
    · intro C i v s3 m3 E' hC hP hpv hn hm hk ht
      refine wpAny_Name (wpAny_loadName_local (env := compEnvC scope [] C (envOf qn sc L a cd)) (by simp [compEnvC, relabel, hkind]) (lookup_relabel_local hx) hn hm ?_) hd
      exact ⟨rfl, s3.heap, s3.toks, rfl, fun _ _ e => e⟩
    · intro D h' tk ys us hD hl1 hl2 hlen' hP hF hk
      have kb : ∀ a' o, s1.heap.get? a' = some o → h'.get? a' = some o := fun a' o e => hk a' o (ne a' o e) (kp a' o e)
      have hD1 : s1.heap.get? D = none := by
        cases z : s1.heap.get? D with
        | none => rfl
        | some o => rw [kp D o z] at hD; injection hD
      have hus : us = vs.toList := by
        refine List.ext_getElem? fun j => ?_
        cases z : us[j]? with
        | some u => have := hP j u z; simp only [Array.getElem?_toList, this]
        | none =>
          rw [List.getElem?_eq_none_iff] at z
          rw [List.getElem?_eq_none (by simp only [Array.length_toList]; lia)]
      have hys : ys.toList = us.filter (fun v => match v with | .ref b => p (.ref b) | _ => false) := by
        generalize us.filter _ = zs at hF
        generalize ys.toList = ws at hF
        induction hF with
        | nil => rfl
        | cons e _ ih => simp only [e, ih]
      obtain ⟨n', g'⟩ := hl2
      have t := Tk.of_keep kb
      have S' : Sm c G L nm l H1 { s1 with heap := h', toks := tk } := S1.step kb
      have fr := S1.hs.fresh hD1
      refine PV.mk (x := .ref D) rfl (S'.add (o := .list (xs.filter p)) fr.1 fr.2 (fun z => ?_) ⟨ys, n', g', ?_⟩) (e1.trans ⟨t, rfl, rfl⟩) (hq D fr.1)
      · obtain ⟨m', N, _⟩ := S1.fr
        obtain ⟨o, ho, _⟩ := ns_nt N
        simp only [z, hD1] at ho; injection ho
      · simp only [hys, hus]
        refine (reL_filter p _ rl fun y hy v r => ?_).tk t
        obtain ⟨b', C', dd, fs, i1, j1, rfl, _⟩ := hel y hy
        rw [show v = _ from r]
  obtain ⟨b, xs, p, hl, hb, hlen, hel, hq⟩ := q
  refine key p (wpAny_mono (zA3 (c := c) (d := d) (qn := qn) i hi hk hy hdy A rm L a cd G l H s (fun v H' => v = .ref b ∧ H' = H) S (by unfold zB1; rw [hl]; exact ⟨rfl, rfl⟩)) (fun v s1 hz2 => ?_) fun _ _ z => z)
  obtain ⟨X, H1, r1, S1, e1, hX, hH⟩ := hz2
  subst hX hH
  exact ⟨H1, b, xs, r1, S1, e1, hb, hlen, hel, hq⟩
end
end
theorem eqv_str (a b : Str) : PyData.eqv (.str a) (.str b) = decide (a = b) := by
  dsimp only [PyData.eqv]; by_cases h : a = b <;> simp [h]
theorem eqv_int (a b : Int) : PyData.eqv (.int a) (.int b) = decide (a = b) := by
  delta PyData.eqv; by_cases h : a = b <;> simp [h]
theorem wEq_str {a b : Str} {H : AH} {Q : V → AH → Prop} (ha : PyData.strOk a = true) (hb : PyData.strOk b = true) : wEq (.str a) (.str b) H Q = Q (.bool (decide (a = b))) H := by
  unfold wEq; simp [asS, ha, hb, eqv_str]
theorem wNe_str {a b : Str} {H : AH} {Q : V → AH → Prop} (ha : PyData.strOk a = true) (hb : PyData.strOk b = true) : wNe (.str a) (.str b) H Q = Q (.bool (!decide (a = b))) H := by
  unfold wNe; simp [asS, ha, hb, eqv_str]
theorem wEq_int {a b : Int} {H : AH} {Q : V → AH → Prop} : wEq (.int a) (.int b) H Q = Q (.bool (decide (a = b))) H := by
  unfold wEq; simp [asI, eqv_int]
theorem wNe_int {a b : Int} {H : AH} {Q : V → AH → Prop} : wNe (.int a) (.int b) H Q = Q (.bool (!decide (a = b))) H := by
  unfold wNe; simp [asI, eqv_int]
theorem ne_t {i j : Int} (h : i ≠ j) {H : AH} {Q : V → AH → Prop} : wNe (.int i) (.int j) H Q = Q (.bool true) H := by rw [wNe_int]; simp [h]
theorem ne_f {i j : Int} (h : i = j) {H : AH} {Q : V → AH → Prop} : wNe (.int i) (.int j) H Q = Q (.bool false) H := by rw [wNe_int]; simp [h]
theorem eq_t {i j : Int} (h : i = j) {H : AH} {Q : V → AH → Prop} : wEq (.int i) (.int j) H Q = Q (.bool true) H := by rw [wEq_int]; simp [h]
theorem eq_f {i j : Int} (h : i ≠ j) {H : AH} {Q : V → AH → Prop} : wEq (.int i) (.int j) H Q = Q (.bool false) H := by rw [wEq_int]; simp [h]
theorem lt_t {i j : Int} (h : i < j) {H : AH} {Q : V → AH → Prop} : wInt (fun i j => V.bool (decide (i < j))) (.int i) (.int j) H Q = Q (.bool true) H := by dsimp only [wInt]; simp only [h, decide_true]
theorem lt_f {i j : Int} (h : ¬ i < j) {H : AH} {Q : V → AH → Prop} : wInt (fun i j => V.bool (decide (i < j))) (.int i) (.int j) H Q = Q (.bool false) H := by dsimp only [wInt]; simp only [h, decide_false]
theorem ge_t {i j : Int} (h : j ≤ i) {H : AH} {Q : V → AH → Prop} : wInt (fun i j => V.bool (decide (j ≤ i))) (.int i) (.int j) H Q = Q (.bool true) H := by dsimp only [wInt]; simp only [h, decide_true]
theorem ge_f {i j : Int} (h : ¬ j ≤ i) {H : AH} {Q : V → AH → Prop} : wInt (fun i j => V.bool (decide (j ≤ i))) (.int i) (.int j) H Q = Q (.bool false) H := by dsimp only [wInt]; simp only [h, decide_false]
inductive Op where
  | t (n : Int) | a (n : Int) | y (n : Int) | x (n : Int)
  deriving DecidableEq
noncomputable def Op.tag : Op → Str
  | .t _ => "t" | .a _ => "a" | .y _ => "y" | .x _ => "x"
noncomputable def Op.num : Op → Int
  | .t n => n | .a n => n | .y n => n | .x n => n
noncomputable def Op.v (o : Op) : V := .tup [.str o.tag, .int o.num]
inductive Pt where
  | op (o : Op) | num (i : Int)
noncomputable def Pt.v : Pt → V
  | .op o => o.v
  | .num i => .int i
structure Row where
  nm : Str
  ps : List Pt
noncomputable def Row.v (r : Row) : V := .tup (.str r.nm :: r.ps.map Pt.v)
noncomputable def rspec (nm : Str) : List (Int × Nat) :=
  if nm = "get_variable" then [(1, 1), (2, 0)]
  else if nm = "get_value" then [(1, 0), (1, 1)]
  else if nm = "get_constant" ∨ nm = "get_structure" then [(1, 1)]
  else if nm = "get_list" then [(1, 0)]
  else if nm = "unify_variable" ∨ nm = "set_variable" then [(2, 0)]
  else if nm = "unify_value" ∨ nm = "set_value" then [(1, 0)]
  else if nm = "unify_local_value" ∨ nm = "set_local_value" then [(3, 0)]
  else if nm = "put_variable" then [(2, 0), (2, 1)]
  else if nm = "put_value" ∨ nm = "put_unsafe_value" then [(1, 0), (2, 1)]
  else if nm = "put_constant" ∨ nm = "put_structure" then [(2, 1)]
  else if nm = "put_list" ∨ nm = "put_void" then [(2, 0)]
  else if nm = "get_level" ∨ nm = "mark" then [(2, 0)]
  else if nm = "cut_to" then [(1, 0)]
  else []
noncomputable def opAt (ps : List Pt) (k : Nat) : Op := match ps[k]? with | some (.op o) => o | _ => .y 0
noncomputable def roles (r : Row) : List (Int × Op) := (rspec r.nm).map fun p => (p.1, opAt r.ps p.2)
noncomputable def rolesV (r : Row) : List V := (roles r).map fun p => .tup [.int p.1, p.2.v]
structure Row.ok (r : Row) : Prop where
  nm : PyData.strOk r.nm = true
  ops : ∀ p ∈ rspec r.nm, ∃ o, r.ps[p.2]? = some (.op o)
  few : r.ps.length ≤ 10
theorem Row.ok.at {r : Row} (h : r.ok) {p : Int × Nat} (hp : p ∈ rspec r.nm) : (r.ps.map Pt.v)[p.2]? = some (opAt r.ps p.2).v := by
  obtain ⟨o, e⟩ := h.ops p hp
  simp [opAt, e, Pt.v]
noncomputable def stOf (k : Nat) : Stmt := (PySem.Challenge.pw_rh0087_01.main.body.drop k).headD (.Pass ⟨0, 0, 0, 0⟩)
noncomputable def inOf (k j : Nat) : Stmt := ((fBody (stOf k)).drop j).headD (.Pass ⟨0, 0, 0, 0⟩)
noncomputable def S60 : Stmt := stOf 6
noncomputable def S67 : Stmt := stOf 7
noncomputable def S81 : Stmt := inOf 8 0
noncomputable def S88 : Stmt := inOf 8 1
noncomputable def S102 : Stmt := inOf 8 3
noncomputable def S109 : Stmt := inOf 8 4
noncomputable def S186 : Stmt := stOf 17
noncomputable def S193 : Stmt := stOf 18
noncomputable def S207 : Stmt := inOf 19 0
noncomputable def S214 : Stmt := inOf 19 1
noncomputable def S226 : Stmt := stOf 20
noncomputable def S233 : Stmt := stOf 21
noncomputable def S247 : Stmt := inOf 22 0
noncomputable def S254 : Stmt := inOf 22 1
noncomputable def S261 : Stmt := inOf 22 2
noncomputable def S268 : Stmt := inOf 22 3
noncomputable def S275 : Stmt := inOf 22 4
noncomputable def S289 : Stmt := stOf 23
noncomputable def S296 : Stmt := stOf 24
noncomputable def S303 : Stmt := stOf 25
noncomputable def S310 : Stmt := stOf 26
noncomputable def S324 : Stmt := inOf 28 0
noncomputable def S331 : Stmt := inOf 28 1
noncomputable def S338 : Stmt := inOf 28 2
noncomputable def S345 : Stmt := inOf 28 3
noncomputable def S352 : Stmt := inOf 28 4
noncomputable def S359 : Stmt := inOf 28 5
noncomputable def S366 : Stmt := inOf 28 6
noncomputable def S373 : Stmt := inOf 28 7
noncomputable def S380 : Stmt := inOf 28 8
noncomputable def S387 : Stmt := inOf 28 9
noncomputable def S394 : Stmt := inOf 28 10
noncomputable def S408 : Stmt := stOf 29
noncomputable def S415 : Stmt := stOf 30
noncomputable def S422 : Stmt := stOf 32
noncomputable def S429 : Stmt := stOf 33
noncomputable def S436 : Stmt := stOf 34
noncomputable def S443 : Stmt := stOf 35
noncomputable def S450 : Stmt := stOf 36
noncomputable def S457 : Stmt := stOf 37
structure Fns (K : Frag) : Prop where
  f60 : FnAt K 60 S60 "fixed_atoms"
  f67 : FnAt K 67 S67 "fixed_functors"
  f81 : FnAt K 81 S81 "Symbols.__init__"
  f88 : FnAt K 88 S88 "Symbols.atom"
  f102 : FnAt K 102 S102 "Symbols.functor"
  f109 : FnAt K 109 S109 "Symbols.func"
  f186 : FnAt K 186 S186 "operand_roles"
  f193 : FnAt K 193 S193 "ends_arguments"
  f207 : FnAt K 207 S207 "Occupation.__init__"
  f214 : FnAt K 214 S214 "Occupation.overlaps"
  f226 : FnAt K 226 S226 "intervals"
  f233 : FnAt K 233 S233 "wishes"
  f247 : FnAt K 247 S247 "RegisterFile.__init__"
  f254 : FnAt K 254 S254 "RegisterFile.occupy"
  f261 : FnAt K 261 S261 "RegisterFile.is_free"
  f268 : FnAt K 268 S268 "RegisterFile.wished"
  f275 : FnAt K 275 S275 "RegisterFile.place"
  f289 : FnAt K 289 S289 "by_start"
  f296 : FnAt K 296 S296 "real_operand"
  f303 : FnAt K 303 S303 "allocate"
  f310 : FnAt K 310 S310 "greatest"
  f324 : FnAt K 324 S324 "AllocationCheck.__init__"
  f331 : FnAt K 331 S331 "AllocationCheck.new_value"
  f338 : FnAt K 338 S338 "AllocationCheck.same_read"
  f345 : FnAt K 345 S345 "AllocationCheck.same_write"
  f352 : FnAt K 352 S352 "AllocationCheck.write"
  f359 : FnAt K 359 S359 "AllocationCheck.copied_value"
  f366 : FnAt K 366 S366 "AllocationCheck.same_shape"
  f373 : FnAt K 373 S373 "AllocationCheck.matches"
  f380 : FnAt K 380 S380 "AllocationCheck.arguments_stand"
  f387 : FnAt K 387 S387 "AllocationCheck.advance"
  f394 : FnAt K 394 S394 "AllocationCheck.left_out"
  f408 : FnAt K 408 S408 "operand_twice"
  f415 : FnAt K 415 S415 "check_allocation"
  f422 : FnAt K 422 S422 "_law_digit"
  f429 : FnAt K 429 S429 "_law_got"
  f436 : FnAt K 436 S436 "_law_rows"
  f443 : FnAt K 443 S443 "_law_stretch"
  f450 : FnAt K 450 S450 "_law_is_copy"
  f457 : FnAt K 457 S457 "law"
local macro_rules | `(tactic| simp! only [$xs,*]) => do
  let a ← ("kT1 kT2 kO kTruth_b kNot kAnd_t kAnd_f kOr_t kOr_f kAndV_t kAndV_f kOrV_t kOrV_f kIf_t kIf_f kC1 kC2 kTup kList kAsg kRet kDrop_n kDrop_i kSeq_n kSeq_c kSeq_b kSeq_r kIfS_t kIfS_f kNx kAA1 kAA2 kGA1 kGA2 kGA3 kGA4 kAI1 kAI2 kAI3 kGI1 kGI2 kGI3 kGI4 kGI5 kL1 kL2_n kL2_c kL2_b kL2_r kFor kW1_t kW1_f kW2_n kW2_c kW2_b kW2_r kBody_r kBody_n kCall kNew kNew2 kM2 kMB kAT1 kAT2 kSw_p loc0 locS wBody wRet wRet0 zB6 zG7 wAsgA wAsgI wAug wAugA wAugI wAsgT wAsgSw zG1 zG3 zB4 wNotB wAndB wOrB wTrue wAndV wOrV wIf zC3 wOne zA5 wAdd1_i wInt_i zB5 zA4 wTup zF5 wDict zD3 wMeth zD2 wCont zG2 wSet2_t wNeg_i wNot_b".splitOn " ").toArray.mapM fun n => `(Lean.Parser.Tactic.simpLemma| ↓ $(Lean.mkIdent (.str `Mine n)):term)
  let b ← ("Mine.wSeq_ap List.map_cons List.map_nil List.nil_append List.cons_append List.length_cons List.length_nil List.replicate_succ List.replicate_zero List.getElem?_cons_zero List.getElem?_cons_succ List.set_cons_zero List.set_cons_succ true_and Bool.not_true Bool.not_false".splitOn " ").toArray.mapM fun n => `(Lean.Parser.Tactic.simpLemma| $(Lean.mkIdent n.toName):term)
  `(tactic| simp only [$(a ++ b),*, $xs,*])
section
theorem AH.set_set (H : AH) (a : Addr) (x y : AO) : (H.set a x).set a y = H.set a y := by
  funext b; unfold AH.set; split <;> rfl
theorem WF.own {H : AH} (wf : WF H) {a C d : Addr} {fs fs' : List (Str × V)} (ha : H a = some (.inst C d fs)) : WF (H.set a (.inst C d fs')) := fun b C' d' fs'' e => by
  by_cases q : b = a
  · subst q; rw [AH.set_self] at e; cases e
    have w := wf _ _ _ _ ha
    rw [AH.set_ne]
    · exact w
    · intro z; rw [z, ha] at w; exact nomatch w
  · rw [AH.set_ne _ _ q] at e
    have w := wf b C' d' fs'' e
    rw [AH.set_ne]
    · exact w
    · intro z; rw [z, ha] at w; exact nomatch w
theorem zB7 {H : AH} {Q : V → AH → Prop} {x : V} (wf : WF H) (q : Q x H) : ∃ H'', Sub H'' H ∧ Q x H'' := ⟨H, Sub.self wf, q⟩
noncomputable def occF (k n s e : V) : List (Str × V) := [("kind", k), ("number", n), ("start", s), ("stop", e)]
theorem occF_kind {k n s e : V} : List.lookup ("kind" : Str) (occF k n s e) = some k := by kernel_rfl
theorem occF_number {k n s e : V} : List.lookup ("number" : Str) (occF k n s e) = some n := by kernel_rfl
theorem occF_start {k n s e : V} : List.lookup ("start" : Str) (occF k n s e) = some s := by kernel_rfl
theorem occF_stop {k n s e : V} : List.lookup ("stop" : Str) (occF k n s e) = some e := by kernel_rfl
theorem occF_put {k n s e v : V} : fput (occF k n s e) "stop" v = occF k n s v := by kernel_rfl
theorem occ_put1 {k : V} : fput [] "kind" k = ([("kind", k)] : List (Str × V)) := by kernel_rfl
theorem occ_put2 {k n : V} : fput [("kind", k)] "number" n = ([("kind", k), ("number", n)] : List (Str × V)) := by kernel_rfl
theorem occ_put3 {k n s : V} : fput [("kind", k), ("number", n)] "start" s = ([("kind", k), ("number", n), ("start", s)] : List (Str × V)) := by kernel_rfl
theorem occ_put4 {k n s e : V} : fput [("kind", k), ("number", n), ("start", s)] "stop" e = occF k n s e := by kernel_rfl
structure Occ where
  kind : Str
  num : Int
  start : Int
  stop : Int
noncomputable def Occ.fs (o : Occ) : List (Str × V) := occF (.str o.kind) (.int o.num) (.int o.start) (.int o.stop)
noncomputable def Occ.over (o p : Occ) : Bool := decide (o.start < p.stop ∧ p.start < o.stop)
inductive IsOcc (H : AH) (v : V) (o : Occ) : Prop
  | of : ∀ a d, (v = .ref a) → (H a = some (.inst 217 d o.fs)) → IsOcc H v o
inductive Sp214 (xs : List V) (H : AH) (Q : V → AH → Prop) : Prop
  | of : ∀ u v o p, (xs = [u, v]) → (IsOcc H u o) → (IsOcc H v p) → (Q (.bool (o.over p)) H) → Sp214 xs H Q
noncomputable abbrev sp214 : List V → Wp V := Sp214
inductive Sp207 (xs : List V) (H : AH) (Q : V → AH → Prop) : Prop
  | of : ∀ (a d : Addr) (o : Occ), (xs = [.ref a, .str o.kind, .int o.num, .int o.start, .int o.stop]) → (H a = some (.inst 217 d [])) → (H d = some (.own a)) → (Q .none (H.set a (.inst 217 d o.fs))) → Sp207 xs H Q
noncomputable abbrev sp207 : List V → Wp V := Sp207
variable {c : Cx} (Fn : Fns c.K)
include Fn
theorem rf214 : RF c 1 214 sp214 := by
  refine rf_of (ps := (["self", "other"] : List Str)) (rest := ([] : List Str)) Fn.f214 (zA1 (zD4 (re_bool' (reb_and (re_cmp (zF3 (zA3 0) zF2) (zF3 (zA3 1) zF2) rv_lt) (reb_one (re_cmp (zF3 (zA3 1) zF2) (zF3 (zA3 0) zF2) rv_lt))))) zA6) ?_ (fun pm cd => len2 (fun _ _ => by rfl))
  rintro xs H Q wf ⟨u, v, o, p, rfl, ⟨a, d, rfl, ha⟩, ⟨b, e, rfl, hb⟩, q⟩
  refine ⟨rfl, ?_⟩
  show wBody _ [some (.ref a), some (.ref b)] H Q
  unfold Occ.over at q
  simp! only [↓at_ ha occF_start rfl, ↓at_ hb occF_stop rfl]
  by_cases h1 : o.start < p.stop
  · rw [decide_eq_true h1]
    simp! only [↓at_ hb occF_start rfl, ↓at_ ha occF_stop rfl]
    exact zB7 wf (by simpa [h1] using q)
  · rw [decide_eq_false h1]
    simp! only []
    exact zB7 wf (by simpa [h1] using q)
theorem rf207 : RF c 1 207 sp207 := by
  have hnd : ((["self", "kind", "number", "start", "stop"] : List Str) ++ ([] : List Str)).Nodup := by decide
  refine rf_of (ps := (["self", "kind", "number", "start", "stop"] : List Str)) (rest := ([] : List Str)) Fn.f207 (zA1 (rs_asgA (zA3 1) (zA3 0)) (zA1 (rs_asgA (zA3 2) (zA3 0)) (zA1 (rs_asgA (zA3 3) (zA3 0)) (zA1 (rs_asgA (zA3 4) (zA3 0)) zA6)))) ?_ (fun pm cd => len5 (fun _ _ _ _ _ => by rfl))
  rintro xs H Q wf ⟨a, d, o, rfl, ha, hd, q⟩
  refine ⟨rfl, ?_⟩
  show wBody _ [some _, some _, some _, some _, some _] _ _
  have at1 : attrHas 217 "kind" = true := by kernel_rfl
  have at2 : attrHas 217 "number" = true := by kernel_rfl
  have at3 : attrHas 217 "start" = true := by kernel_rfl
  have at4 : attrHas 217 "stop" = true := by kernel_rfl
  show wBody _ [some (.ref a), some (.str o.kind), some (.int o.num), some (.int o.start), some (.int o.stop)] H Q
  simp! only [↓put_at ha at1, ↓put_at (AH.set_self ..) at2, ↓put_at (AH.set_self ..) at3, ↓put_at (AH.set_self ..) at4, AH.set_set, occ_put1, occ_put2, occ_put3, occ_put4]
  exact zB7 (wf.own ha) q
end
set_option tactic.hygienic true in
theorem look_dput {K : Type} [DecidableEq K] (k : K) (X : V) (k' : K) : ∀ es : List (K × V), look (dput es k X) k' = if k' = k then some X else look es k' := by
  intro es
  unfold dput
  split
  · rename_i h
    induction es with
    | nil => simp at h
    | cons p r ih =>
      obtain ⟨q, Y⟩ := p
      unfold look at *
      rw [List.map_cons]
      by_cases e : q = k
      · subst e
        simp only [if_true, List.find?_cons]
        by_cases e' : q = k'
        · subst e'; simp
        · have e'' : ¬ k' = q := fun z => e' z.symm
          simp only [e', decide_false, e'', if_false]
          by_cases hr : r.any (fun p => decide (p.1 = q)) = true
          · have := ih hr
            rw [if_neg e''] at this
            exact this
          · have hm : r.map (fun p => if p.1 = q then (p.1, X) else p) = r := by
              conv => rhs; rw [← List.map_id r]
              exact List.map_congr_left fun x hx => by
                have : ¬ x.1 = q := fun z => hr (List.any_eq_true.mpr ⟨x, hx, by simp [z]⟩)
                simp [this]
            rw [hm]
      · simp only [e, if_false, List.find?_cons]
        have hr : r.any (fun p => decide (p.1 = k)) = true := by simpa [e] using h
        by_cases e' : q = k'
        · subst e'; simp [e]
        · simp only [e', decide_false]
          exact ih hr
  · rename_i h
    unfold look
    simp only [List.find?_append]
    by_cases e : k' = k
    · subst e
      have : es.find? (fun p => decide (p.1 = k')) = none := by
        rw [List.find?_eq_none]
        intro x hx hz
        exact h (List.any_eq_true.mpr ⟨x, hx, hz⟩)
      simp [this]
    · have : ¬ k = k' := fun z => e z.symm
      simp [e, this]
theorem length_dput {K : Type} [DecidableEq K] (k : K) (X : V) (es : List (K × V)) : (dput es k X).length ≤ es.length + 1 := by
  unfold dput; split <;> simp
noncomputable abbrev IM := Int → Option Int
noncomputable def upd (f : IM) (k v : Int) : IM := fun x => if x = k then some v else f x
noncomputable def IsD (H : AH) (a : Addr) (f : IM) (N : Nat) : Prop := ∃ es : List (Int × V), (∀ k, look es k = (f k).map V.int) ∧ es.length ≤ N ∧ ((∃ ep, H a = some (.dictI ep es)) ∨ (es = [] ∧ ∃ ep, H a = some (.dictE ep)))
theorem IsD.keep {H H' : AH} {a f N} (h : IsD H a f N) (e : ∀ o, H a = some o → H' a = some o) : IsD H' a f N := by
  obtain ⟨es, h1, h2, h3⟩ := h
  refine ⟨es, h1, h2, ?_⟩
  rcases h3 with ⟨ep, h3⟩ | ⟨h4, ep, h3⟩
  · exact .inl ⟨ep, e _ h3⟩
  · exact .inr ⟨h4, ep, e _ h3⟩
theorem IsD.mono {H : AH} {a f N M} (h : IsD H a f N) (le : N ≤ M) : IsD H a f M := by
  obtain ⟨es, h1, h2, h3⟩ := h
  exact ⟨es, h1, Nat.le_trans h2 le, h3⟩
theorem IsD.obj {H : AH} {a f N} (h : IsD H a f N) : ∃ o, H a = some o ∧ (∀ C d fs, o ≠ .inst C d fs) ∧ ∀ b, o ≠ .own b := by
  obtain ⟨es, h1, h2, h3⟩ := h
  rcases h3 with ⟨ep, h3⟩ | ⟨h4, ep, h3⟩
  · exact ⟨_, h3, (by intro _ _ _ q; injection q), (by intro _ q; injection q)⟩
  · exact ⟨_, h3, (by intro _ _ _ q; injection q), (by intro _ q; injection q)⟩
theorem IsD.empty {H : AH} {a ep} (h : H a = some (.dictE ep)) : IsD H a (fun _ => none) 0 := ⟨[], fun _ => rfl, Nat.le_refl _, .inr ⟨rfl, ep, h⟩⟩
theorem IsD.put {H : AH} {a f N} (h : IsD H a f N) (hN : N ≤ 1000000) {k v : Int} {Q : Unit → AH → Prop} (q : ∀ o, (∀ C d fs, o ≠ .inst C d fs) → (∀ b, o ≠ .own b) → IsD (H.set a o) a (upd f k v) (N + 1) → Q () (H.set a o)) : wPutI (.ref a) (.int k) (.int v) H Q := by
  obtain ⟨es, h1, h2, h3⟩ := h
  have fin : ∀ ep, Q () (H.set a (.dictI ep (dput es k (.int v)))) := fun ep => q _ (by intro _ _ _ q; injection q) (by intro _ q; injection q)
    ⟨_, fun k' => by rw [look_dput]; unfold upd; split <;> simp [h1], Nat.le_trans (length_dput ..) (by lia), .inl ⟨ep, AH.set_self ..⟩⟩
  rcases h3 with ⟨ep, h3⟩ | ⟨h4, ep, h3⟩
  · dsimp only [wPutI]; simp only [h3]; exact ⟨by lia, fin⟩
  · subst h4
    dsimp only [wPutI]; simp only [h3]; exact fin
theorem IsD.get {H : AH} {a f N} (h : IsD H a f N) {k v : Int} {Q : V → AH → Prop} (q : Q (.int ((f k).getD v)) H) : wGet [.ref a, .int k, .int v] H Q := by
  obtain ⟨es, h1, h2, h3⟩ := h
  have e : (look es k).getD (.int v) = .int ((f k).getD v) := by rw [h1]; cases f k <;> rfl
  rcases h3 with ⟨ep, h3⟩ | ⟨h4, ep, h3⟩
  · dsimp only [wGet]; simp only [h3, e]; exact q
  · subst h4
    dsimp only [wGet]; simp only [h3]
    have : V.int v = .int ((f k).getD v) := e
    rw [this]; exact q
theorem IsD.ok {H : AH} {a f N} (h : IsD H a f N) : isDict H (.ref a) := by
  obtain ⟨es, h1, h2, h3⟩ := h
  rcases h3 with ⟨ep, h3⟩ | ⟨h4, ep, h3⟩ <;> simp [isDict, h3]
theorem IsD.has {H : AH} {a f N} (h : IsD H a f N) {k : Int} (g : Bool → Bool) {Q : V → AH → Prop} (q : Q (.bool (g (f k).isSome)) H) : wInB g (.int k) (.ref a) H Q := by
  obtain ⟨es, h1, h2, h3⟩ := h
  have e : (look es k).isSome = (f k).isSome := by rw [h1]; cases f k <;> rfl
  rcases h3 with ⟨ep, h3⟩ | ⟨h4, ep, h3⟩
  · dsimp only [wInB]; simp only [h3, e]; exact q
  · subst h4
    dsimp only [wInB]; simp only [h3]
    have : false = (f k).isSome := e
    rw [this]; exact q
theorem IsD.at {H : AH} {a f N} (h : IsD H a f N) {k v : Int} (hv : f k = some v) {Q : V → AH → Prop} (q : Q (.int v) H) : zD5 (.ref a) (.int k) H Q := by
  obtain ⟨es, h1, h2, h3⟩ := h
  have e : look es k = some (.int v) := by rw [h1, hv]; rfl
  rcases h3 with ⟨ep, h3⟩ | ⟨h4, ep, h3⟩
  · dsimp only [zD5]; simp only [h3, e]; exact q
  · subst h4; injection e
noncomputable def foot (H : AH) (a : Addr) : List Addr := match H a with
  | some (.inst _ d fs) => a :: d :: fs.filterMap fun p => match p.2 with | .ref b => some b | _ => none
  | _ => []
structure Evo (a : Addr) (H H' : AH) : Prop where
  keep : ∀ b o, H b = some o → b ∉ foot H a → H' b = some o
  new : ∀ b ∈ foot H' a, b ∈ foot H a ∨ H b = none
  wf : WF H'
theorem Evo.refl {a : Addr} {H : AH} (wf : WF H) : Evo a H H := ⟨fun _ _ e _ => e, fun _ h => .inl h, wf⟩
theorem Evo.trans {a : Addr} {H H' H'' : AH} (x : Evo a H H') (y : Evo a H' H'') : Evo a H H'' where
  keep := fun b o e n => y.keep b o (x.keep b o e n) fun m => by
    rcases x.new b m with h | h
    · exact n h
    · rw [h] at e; injection e
  new := fun b m => by
    rcases y.new b m with h | h
    · exact x.new b h
    · by_cases n : b ∈ foot H a
      · exact .inl n
      · refine .inr ?_
        cases q : H b with
        | none => rfl
        | some o => rw [x.keep b o q n] at h; injection h
  wf := y.wf
section
theorem g_ta : (("t" : Str) = "a") = False := eq_false (by decide +kernel)
theorem g_ty : (("t" : Str) = "y") = False := eq_false (by decide +kernel)
theorem g_tx : (("t" : Str) = "x") = False := eq_false (by decide +kernel)
theorem g_at : (("a" : Str) = "t") = False := eq_false (by decide +kernel)
theorem g_ay : (("a" : Str) = "y") = False := eq_false (by decide +kernel)
theorem g_ax : (("a" : Str) = "x") = False := eq_false (by decide +kernel)
theorem g_yt : (("y" : Str) = "t") = False := eq_false (by decide +kernel)
theorem g_ya : (("y" : Str) = "a") = False := eq_false (by decide +kernel)
theorem g_yx : (("y" : Str) = "x") = False := eq_false (by decide +kernel)
theorem g_xt : (("x" : Str) = "t") = False := eq_false (by decide +kernel)
theorem g_xa : (("x" : Str) = "a") = False := eq_false (by decide +kernel)
theorem g_xy : (("x" : Str) = "y") = False := eq_false (by decide +kernel)
theorem k_t : PyData.strOk "t" = true := by kernel_rfl
theorem k_a : PyData.strOk "a" = true := by kernel_rfl
theorem k_y : PyData.strOk "y" = true := by kernel_rfl
theorem k_x : PyData.strOk "x" = true := by kernel_rfl
theorem Op.tag_ok (o : Op) : PyData.strOk o.tag = true := by cases o <;> first | exact k_t | exact k_a | exact k_y | exact k_x
theorem op_ext {o p : Op} (h1 : o.tag = p.tag) (h2 : o.num = p.num) : o = p := by
  cases o <;> cases p <;> first | exact congrArg Op.t h2 | exact congrArg Op.a h2 | exact congrArg Op.y h2 | exact congrArg Op.x h2 | exact (cast g_ta h1).elim | exact (cast g_ty h1).elim | exact (cast g_tx h1).elim | exact (cast g_at h1).elim | exact (cast g_ay h1).elim | exact (cast g_ax h1).elim | exact (cast g_yt h1).elim | exact (cast g_ya h1).elim | exact (cast g_yx h1).elim | exact (cast g_xt h1).elim | exact (cast g_xa h1).elim | exact (cast g_xy h1).elim
theorem op_eqv {o p : Op} : PyData.eqv (toP o.v) (toP p.v) = decide (o = p) := by
  have e : PyData.eqv (toP o.v) (toP p.v) = (decide (o.tag = p.tag) && decide (o.num = p.num)) := by
    show PyData.eqv (.tuple [.str o.tag, .int o.num]) (.tuple [.str p.tag, .int p.num]) = _
    simp only [PyData.eqv, PyData.eqvAll, ← eqv_str, ← eqv_int, Bool.and_true]
  rw [e, ← Bool.decide_and]
  exact decide_eq_decide.mpr ⟨fun h => op_ext h.1 h.2, fun h => h ▸ ⟨rfl, rfl⟩⟩
theorem asP_op {H : AH} {o : Op} : asP H o.v = some (toP o.v) := by
  show (if okV 6 o.v then some (toP o.v) else none) = _
  exact if_pos (by simp [Op.v, okT, okC, okN, okS, okI, o.tag_ok])
theorem wEq_op {o p : Op} {H : AH} {Q : V → AH → Prop} : wEq o.v p.v H Q = Q (.bool (decide (o = p))) H := by
  unfold wEq; rw [asP_op, asP_op, ← op_eqv]
theorem wNe_op {o p : Op} {H : AH} {Q : V → AH → Prop} : wNe o.v p.v H Q = Q (.bool (!decide (o = p))) H := by
  unfold wNe; rw [asP_op, asP_op, ← op_eqv]
theorem zJ2 {o : Op} {H : AH} {Q : V → AH → Prop} : zD5 o.v (.int 0) H Q = Q (.str o.tag) H := by
  unfold zD5; simp [Op.v]
theorem wSub_op1 {o : Op} {H : AH} {Q : V → AH → Prop} : zD5 o.v (.int 1) H Q = Q (.int o.num) H := by
  unfold zD5; simp [Op.v]
structure Ck where
  nv : Int
  vo : IM
  he : IM
  inc : IM
  out : IM
noncomputable def ckF (nv vo he inc out : V) : List (Str × V) := [("next_value", nv), ("value_of", vo), ("held", he), ("incoming", inc), ("outgoing", out)]
theorem ckF_nv {n a b d e : V} : List.lookup ("next_value" : Str) (ckF n a b d e) = some n := by kernel_rfl
theorem ckF_vo {n a b d e : V} : List.lookup ("value_of" : Str) (ckF n a b d e) = some a := by kernel_rfl
theorem ckF_he {n a b d e : V} : List.lookup ("held" : Str) (ckF n a b d e) = some b := by kernel_rfl
theorem ckF_inc {n a b d e : V} : List.lookup ("incoming" : Str) (ckF n a b d e) = some d := by kernel_rfl
theorem ckF_out {n a b d e : V} : List.lookup ("outgoing" : Str) (ckF n a b d e) = some e := by kernel_rfl
theorem ckP_nv {n a b d e v : V} : fput (ckF n a b d e) "next_value" v = ckF v a b d e := by kernel_rfl
theorem ckP_vo {n a b d e v : V} : fput (ckF n a b d e) "value_of" v = ckF n v b d e := by kernel_rfl
theorem ckP_he {n a b d e v : V} : fput (ckF n a b d e) "held" v = ckF n a v d e := by kernel_rfl
theorem ckP_inc {n a b d e v : V} : fput (ckF n a b d e) "incoming" v = ckF n a b v e := by kernel_rfl
theorem ckP_out {n a b d e v : V} : fput (ckF n a b d e) "outgoing" v = ckF n a b d v := by kernel_rfl
theorem ck_p1 {n : V} : fput [] "next_value" n = ([("next_value", n)] : List (Str × V)) := by kernel_rfl
theorem ck_p2 {n a : V} : fput [("next_value", n)] "value_of" a = ([("next_value", n), ("value_of", a)] : List (Str × V)) := by kernel_rfl
theorem ck_p3 {n a b : V} : fput [("next_value", n), ("value_of", a)] "held" b = ([("next_value", n), ("value_of", a), ("held", b)] : List (Str × V)) := by kernel_rfl
theorem ck_p4 {n a b d : V} : fput [("next_value", n), ("value_of", a), ("held", b)] "incoming" d = ([("next_value", n), ("value_of", a), ("held", b), ("incoming", d)] : List (Str × V)) := by kernel_rfl
theorem ck_p5 {n a b d e : V} : fput [("next_value", n), ("value_of", a), ("held", b), ("incoming", d)] "outgoing" e = ckF n a b d e := by kernel_rfl
theorem hA_nv : attrHas 397 "next_value" = true := by kernel_rfl
theorem hA_vo : attrHas 397 "value_of" = true := by kernel_rfl
theorem hA_he : attrHas 397 "held" = true := by kernel_rfl
theorem hA_inc : attrHas 397 "incoming" = true := by kernel_rfl
theorem hA_out : attrHas 397 "outgoing" = true := by kernel_rfl
structure RepC (H : AH) (a d a1 a2 a3 a4 : Addr) (S : Ck) (N : Nat) : Prop where
  at' : H a = some (.inst 397 d (ckF (.int S.nv) (.ref a1) (.ref a2) (.ref a3) (.ref a4)))
  nd : a1 ≠ a2 ∧ a1 ≠ a3 ∧ a1 ≠ a4 ∧ a2 ≠ a3 ∧ a2 ≠ a4 ∧ a3 ≠ a4
  vo : IsD H a1 S.vo N
  he : IsD H a2 S.he N
  inc : IsD H a3 S.inc N
  out : IsD H a4 S.out N
inductive Rep (H : AH) (a : Addr) (S : Ck) (N : Nat) : Prop
  | of : ∀ d a1 a2 a3 a4, (RepC H a d a1 a2 a3 a4 S N) → Rep H a S N
section
variable {H : AH} {a d a1 a2 a3 a4 : Addr} {S : Ck} {N : Nat}
theorem RepC.foot (R : RepC H a d a1 a2 a3 a4 S N) : Mine.foot H a = [a, d, a1, a2, a3, a4] := by
  unfold Mine.foot; rw [R.at']; rfl
theorem IsD.ne {f M b} (h : IsD H b f M) (e : H a = some (.inst 397 d (ckF (.int S.nv) (.ref a1) (.ref a2) (.ref a3) (.ref a4)))) : b ≠ a := fun q => by
  obtain ⟨o, ho, hi, _⟩ := h.obj
  rw [q, e] at ho; exact hi _ _ _ (Option.some.inj ho).symm
theorem IsD.other {f M b g} {o : AO} (h : IsD H b f M) (ne : b ≠ g) : IsD (H.set g o) b f M := h.keep fun o' e => by rw [AH.set_ne _ _ ne]; exact e
theorem IsD.mono1 {f b} (h : IsD H b f N) : IsD H b f (N + 1) := h.mono (Nat.le_succ _)
theorem RepC.evo (wf : WF H) (R : RepC H a d a1 a2 a3 a4 S N) {b : Addr} (hb : b ∈ [a1, a2, a3, a4]) {f M} (hf : IsD H b f M) {o : AO} (hi : ∀ C d fs, o ≠ .inst C d fs) : Evo a H (H.set b o) := by
  have nb := hf.ne R.at'
  obtain ⟨ob, ho, h1, h2⟩ := hf.obj
  have ff := R.foot
  have ff' : Mine.foot (H.set b o) a = [a, d, a1, a2, a3, a4] := by simp only [← ff]; unfold Mine.foot; rw [AH.set_ne _ _ (Ne.symm nb)]
  refine ⟨fun x ox e n => ?_, fun x hx => .inl (by rw [ff]; rw [ff'] at hx; exact hx), wf.upd ho hi h2⟩
  rw [AH.set_ne]
  · exact e
  · intro z; subst z; rw [ff] at n; exact n (List.mem_cons_of_mem _ (List.mem_cons_of_mem _ hb))
theorem RepC.putVo (wf : WF H) (R : RepC H a d a1 a2 a3 a4 S N) {k v : Int} {o : AO} (hi : ∀ C d fs, o ≠ .inst C d fs) (h : IsD (H.set a1 o) a1 (upd S.vo k v) (N + 1)) : RepC (H.set a1 o) a d a1 a2 a3 a4 { S with vo := upd S.vo k v } (N + 1) ∧ Evo a H (H.set a1 o) := by
  refine zC5 fun _ hk => ?_
  obtain ⟨n1, n2, n3, n4, n5, n6⟩ := R.nd
  refine hk ?_
  refine ⟨⟨?_, R.nd, h, (R.he.other n1.symm).mono1, (R.inc.other n2.symm).mono1, (R.out.other n3.symm).mono1⟩, R.evo wf (by simp) R.vo hi⟩
  rw [AH.set_ne _ _ (R.vo.ne R.at').symm]; exact R.at'
theorem RepC.putHe (wf : WF H) (R : RepC H a d a1 a2 a3 a4 S N) {k v : Int} {o : AO} (hi : ∀ C d fs, o ≠ .inst C d fs) (h : IsD (H.set a2 o) a2 (upd S.he k v) (N + 1)) : RepC (H.set a2 o) a d a1 a2 a3 a4 { S with he := upd S.he k v } (N + 1) ∧ Evo a H (H.set a2 o) := by
  refine zC5 fun _ hk => ?_
  obtain ⟨n1, n2, n3, n4, n5, n6⟩ := R.nd
  refine hk ?_
  refine ⟨⟨?_, R.nd, (R.vo.other n1).mono1, h, (R.inc.other n4.symm).mono1, (R.out.other n5.symm).mono1⟩, R.evo wf (by simp) R.he hi⟩
  rw [AH.set_ne _ _ (R.he.ne R.at').symm]; exact R.at'
theorem RepC.putInc (wf : WF H) (R : RepC H a d a1 a2 a3 a4 S N) {k v : Int} {o : AO} (hi : ∀ C d fs, o ≠ .inst C d fs) (h : IsD (H.set a3 o) a3 (upd S.inc k v) (N + 1)) : RepC (H.set a3 o) a d a1 a2 a3 a4 { S with inc := upd S.inc k v } (N + 1) ∧ Evo a H (H.set a3 o) := by
  refine zC5 fun _ hk => ?_
  obtain ⟨n1, n2, n3, n4, n5, n6⟩ := R.nd
  refine hk ?_
  refine ⟨⟨?_, R.nd, (R.vo.other n2).mono1, (R.he.other n4).mono1, h, (R.out.other n6.symm).mono1⟩, R.evo wf (by simp) R.inc hi⟩
  rw [AH.set_ne _ _ (R.inc.ne R.at').symm]; exact R.at'
theorem RepC.putOut (wf : WF H) (R : RepC H a d a1 a2 a3 a4 S N) {k v : Int} {o : AO} (hi : ∀ C d fs, o ≠ .inst C d fs) (h : IsD (H.set a4 o) a4 (upd S.out k v) (N + 1)) : RepC (H.set a4 o) a d a1 a2 a3 a4 { S with out := upd S.out k v } (N + 1) ∧ Evo a H (H.set a4 o) := by
  refine zC5 fun _ hk => ?_
  obtain ⟨n1, n2, n3, n4, n5, n6⟩ := R.nd
  refine hk ?_
  refine ⟨⟨?_, R.nd, (R.vo.other n3).mono1, (R.he.other n5).mono1, (R.inc.other n6).mono1, h⟩, R.evo wf (by simp) R.out hi⟩
  rw [AH.set_ne _ _ (R.out.ne R.at').symm]; exact R.at'
theorem RepC.setNv (wf : WF H) (R : RepC H a d a1 a2 a3 a4 S N) (n : Int) : RepC (H.set a (.inst 397 d (ckF (.int n) (.ref a1) (.ref a2) (.ref a3) (.ref a4)))) a d a1 a2 a3 a4 { S with nv := n } N ∧
    Evo a H (H.set a (.inst 397 d (ckF (.int n) (.ref a1) (.ref a2) (.ref a3) (.ref a4)))) := by
  have ff := R.foot
  have ff' : Mine.foot (H.set a (.inst 397 d (ckF (.int n) (.ref a1) (.ref a2) (.ref a3) (.ref a4)))) a = [a, d, a1, a2, a3, a4] := by unfold Mine.foot; rw [AH.set_self]; rfl
  refine ⟨⟨AH.set_self .., R.nd, R.vo.other (R.vo.ne R.at'), R.he.other (R.he.ne R.at'), R.inc.other (R.inc.ne R.at'), R.out.other (R.out.ne R.at')⟩, ⟨fun x ox e n => ?_, fun x hx => .inl (by rw [ff]; rw [ff'] at hx; exact hx), wf.own R.at'⟩⟩
  rw [AH.set_ne]
  · exact e
  · intro z; cases z; rw [ff] at n; simp at n
end
theorem q_tt {H : AH} {Q : V → AH → Prop} : wEq (.str "t") (.str "t") H Q = Q (.bool true) H := by rw [wEq_str k_t k_t]; simp
theorem q_ta {H : AH} {Q : V → AH → Prop} : wEq (.str "t") (.str "a") H Q = Q (.bool false) H := by rw [wEq_str k_t k_a]; simp only [g_ta, decide_false]
theorem q_ty {H : AH} {Q : V → AH → Prop} : wEq (.str "t") (.str "y") H Q = Q (.bool false) H := by rw [wEq_str k_t k_y]; simp only [g_ty, decide_false]
theorem q_tx {H : AH} {Q : V → AH → Prop} : wEq (.str "t") (.str "x") H Q = Q (.bool false) H := by rw [wEq_str k_t k_x]; simp only [g_tx, decide_false]
theorem q_at {H : AH} {Q : V → AH → Prop} : wEq (.str "a") (.str "t") H Q = Q (.bool false) H := by rw [wEq_str k_a k_t]; simp only [g_at, decide_false]
theorem q_aa {H : AH} {Q : V → AH → Prop} : wEq (.str "a") (.str "a") H Q = Q (.bool true) H := by rw [wEq_str k_a k_a]; simp
theorem q_ay {H : AH} {Q : V → AH → Prop} : wEq (.str "a") (.str "y") H Q = Q (.bool false) H := by rw [wEq_str k_a k_y]; simp only [g_ay, decide_false]
theorem q_ax {H : AH} {Q : V → AH → Prop} : wEq (.str "a") (.str "x") H Q = Q (.bool false) H := by rw [wEq_str k_a k_x]; simp only [g_ax, decide_false]
theorem q_yt {H : AH} {Q : V → AH → Prop} : wEq (.str "y") (.str "t") H Q = Q (.bool false) H := by rw [wEq_str k_y k_t]; simp only [g_yt, decide_false]
theorem q_ya {H : AH} {Q : V → AH → Prop} : wEq (.str "y") (.str "a") H Q = Q (.bool false) H := by rw [wEq_str k_y k_a]; simp only [g_ya, decide_false]
theorem q_yy {H : AH} {Q : V → AH → Prop} : wEq (.str "y") (.str "y") H Q = Q (.bool true) H := by rw [wEq_str k_y k_y]; simp
theorem q_yx {H : AH} {Q : V → AH → Prop} : wEq (.str "y") (.str "x") H Q = Q (.bool false) H := by rw [wEq_str k_y k_x]; simp only [g_yx, decide_false]
theorem q_xt {H : AH} {Q : V → AH → Prop} : wEq (.str "x") (.str "t") H Q = Q (.bool false) H := by rw [wEq_str k_x k_t]; simp only [g_xt, decide_false]
theorem q_xa {H : AH} {Q : V → AH → Prop} : wEq (.str "x") (.str "a") H Q = Q (.bool false) H := by rw [wEq_str k_x k_a]; simp only [g_xa, decide_false]
theorem q_xy {H : AH} {Q : V → AH → Prop} : wEq (.str "x") (.str "y") H Q = Q (.bool false) H := by rw [wEq_str k_x k_y]; simp only [g_xy, decide_false]
theorem q_xx {H : AH} {Q : V → AH → Prop} : wEq (.str "x") (.str "x") H Q = Q (.bool true) H := by rw [wEq_str k_x k_x]; simp
theorem n_tx {H : AH} {Q : V → AH → Prop} : wNe (.str "t") (.str "x") H Q = Q (.bool true) H := by rw [wNe_str k_t k_x]; simp only [g_tx, decide_false, Bool.not_false]
theorem n_ax {H : AH} {Q : V → AH → Prop} : wNe (.str "a") (.str "x") H Q = Q (.bool true) H := by rw [wNe_str k_a k_x]; simp only [g_ax, decide_false, Bool.not_false]
theorem n_yx {H : AH} {Q : V → AH → Prop} : wNe (.str "y") (.str "x") H Q = Q (.bool true) H := by rw [wNe_str k_y k_x]; simp only [g_yx, decide_false, Bool.not_false]
theorem n_xx {H : AH} {Q : V → AH → Prop} : wNe (.str "x") (.str "x") H Q = Q (.bool false) H := by rw [wNe_str k_x k_x]; simp
theorem s0_t {n : Int} {H : AH} {Q : V → AH → Prop} : zD5 (Op.t n).v (.int 0) H Q = Q (.str "t") H := zJ2
theorem s1_t {n : Int} {H : AH} {Q : V → AH → Prop} : zD5 (Op.t n).v (.int 1) H Q = Q (.int n) H := wSub_op1
theorem t0_t {n : Int} {H : AH} {Q : V → AH → Prop} : zD5 (Pt.op (Op.t n)).v (.int 0) H Q = Q (.str "t") H := zJ2
theorem t1_t {n : Int} {H : AH} {Q : V → AH → Prop} : zD5 (Pt.op (Op.t n)).v (.int 1) H Q = Q (.int n) H := wSub_op1
theorem s0_a {n : Int} {H : AH} {Q : V → AH → Prop} : zD5 (Op.a n).v (.int 0) H Q = Q (.str "a") H := zJ2
theorem s1_a {n : Int} {H : AH} {Q : V → AH → Prop} : zD5 (Op.a n).v (.int 1) H Q = Q (.int n) H := wSub_op1
theorem t0_a {n : Int} {H : AH} {Q : V → AH → Prop} : zD5 (Pt.op (Op.a n)).v (.int 0) H Q = Q (.str "a") H := zJ2
theorem t1_a {n : Int} {H : AH} {Q : V → AH → Prop} : zD5 (Pt.op (Op.a n)).v (.int 1) H Q = Q (.int n) H := wSub_op1
theorem s0_y {n : Int} {H : AH} {Q : V → AH → Prop} : zD5 (Op.y n).v (.int 0) H Q = Q (.str "y") H := zJ2
theorem s1_y {n : Int} {H : AH} {Q : V → AH → Prop} : zD5 (Op.y n).v (.int 1) H Q = Q (.int n) H := wSub_op1
theorem t0_y {n : Int} {H : AH} {Q : V → AH → Prop} : zD5 (Pt.op (Op.y n)).v (.int 0) H Q = Q (.str "y") H := zJ2
theorem t1_y {n : Int} {H : AH} {Q : V → AH → Prop} : zD5 (Pt.op (Op.y n)).v (.int 1) H Q = Q (.int n) H := wSub_op1
theorem s0_x {n : Int} {H : AH} {Q : V → AH → Prop} : zD5 (Op.x n).v (.int 0) H Q = Q (.str "x") H := zJ2
theorem s1_x {n : Int} {H : AH} {Q : V → AH → Prop} : zD5 (Op.x n).v (.int 1) H Q = Q (.int n) H := wSub_op1
theorem t0_x {n : Int} {H : AH} {Q : V → AH → Prop} : zD5 (Pt.op (Op.x n)).v (.int 0) H Q = Q (.str "x") H := zJ2
theorem t1_x {n : Int} {H : AH} {Q : V → AH → Prop} : zD5 (Pt.op (Op.x n)).v (.int 1) H Q = Q (.int n) H := wSub_op1
theorem qs_t {a b : Str} (ha : PyData.strOk a = true) (hb : PyData.strOk b = true) (h : a = b) {H : AH} {Q : V → AH → Prop} : wEq (.str a) (.str b) H Q = Q (.bool true) H := by rw [wEq_str ha hb]; simp [h]
theorem qs_f {a b : Str} (ha : PyData.strOk a = true) (hb : PyData.strOk b = true) (h : a ≠ b) {H : AH} {Q : V → AH → Prop} : wEq (.str a) (.str b) H Q = Q (.bool false) H := by rw [wEq_str ha hb]; simp [h]
theorem nes_f {a b : Str} (ha : PyData.strOk a = true) (hb : PyData.strOk b = true) (h : a = b) {H : AH} {Q : V → AH → Prop} : wNe (.str a) (.str b) H Q = Q (.bool false) H := by rw [wNe_str ha hb]; simp [h]
theorem nes_t {a b : Str} (ha : PyData.strOk a = true) (hb : PyData.strOk b = true) (h : a ≠ b) {H : AH} {Q : V → AH → Prop} : wNe (.str a) (.str b) H Q = Q (.bool true) H := by rw [wNe_str ha hb]; simp [h]
end
local macro_rules | `(tactic| dsimp! only [$xs,*]) => do
  let a ← ("q_tt q_ta q_ty q_tx q_at q_aa q_ay q_ax q_yt q_ya q_yy q_yx q_xt q_xa q_xy q_xx n_tx n_ax n_yx n_xx s0_t s1_t t0_t t1_t s0_a s1_a t0_a t1_a s0_y s1_y t0_y t1_y s0_x s1_x t0_x t1_x".splitOn " ").toArray.mapM fun n => `(Lean.Parser.Tactic.simpLemma| ↓ $(Lean.mkIdent (.str `Mine n)):term)
  `(tactic| simp! only [$a,*, $xs,*])
section
noncomputable def srcVal (S : Ck) : Op → Int
  | .t n => (S.vo n).getD 0
  | .a n => (S.inc n).getD 0
  | _ => 0
noncomputable def sameRead (S : Ck) (o r : Op) : Bool := match o with
  | .y _ => decide (r = o)
  | _ => match r with
    | .x k => match S.he k with
      | none => false
      | some h => match o with
        | .t n => decide (h = (S.vo n).getD 0)
        | o => decide (o.num = k) && decide (h = (S.inc o.num).getD 0)
    | _ => false
noncomputable def sameWrite (o r : Op) : Bool := match o with
  | .y _ => decide (r = o)
  | .a n => decide (r = .x n)
  | _ => match r with | .x _ => true | _ => false
theorem wEq_opx {o : Op} {n : Int} {H : AH} {Q : V → AH → Prop} : wEq o.v (.tup [.str "x", .int n]) H Q = Q (.bool (decide (o = .x n))) H := wEq_op (p := .x n)
noncomputable def writeC (S : Ck) (o r : Op) (v : Int) : Ck := match o with
  | .y _ => S
  | .t n => { S with he := upd S.he r.num v, vo := upd S.vo n v }
  | .a n => { S with he := upd S.he r.num v, out := upd S.out n v }
  | .x n => { S with he := upd S.he r.num v, out := upd S.out n v }
theorem RepC.mono {H : AH} {a d a1 a2 a3 a4 : Addr} {S : Ck} {N M : Nat} (R : RepC H a d a1 a2 a3 a4 S N) (h : N ≤ M := by lia) : RepC H a d a1 a2 a3 a4 S M :=
  ⟨R.at', R.nd, R.vo.mono h, R.he.mono h, R.inc.mono h, R.out.mono h⟩
noncomputable def copied (S : Ck) (r : Row) : Int :=
  if r.nm = "get_variable" then srcVal S (opAt r.ps 1) else if r.nm = "put_value" then srcVal S (opAt r.ps 0) else 0
theorem wSub_row0 {r : Row} {H : AH} {Q : V → AH → Prop} : zD5 r.v (.int 0) H Q = Q (.str r.nm) H := by unfold zD5; simp [Row.v]
theorem zG4 {r : Row} {p : V} (h : (r.ps.map Pt.v)[0]? = some p) {H : AH} {Q : V → AH → Prop} : zD5 r.v (.int 1) H Q = Q p H := by
  dsimp only [Row.v, zD5]; simp [h]
theorem wSub_row2 {r : Row} {p : V} (h : (r.ps.map Pt.v)[1]? = some p) {H : AH} {Q : V → AH → Prop} : zD5 r.v (.int 2) H Q = Q p H := by
  dsimp only [Row.v, zD5]; simp [h]
theorem rs_gv : rspec "get_variable" = [(1, 1), (2, 0)] := by kernel_rfl
theorem rs_pv : rspec "put_value" = [(1, 0), (2, 1)] := by kernel_rfl
theorem n_gv : PyData.strOk "get_variable" = true := by kernel_rfl
theorem n_pv : PyData.strOk "put_value" = true := by kernel_rfl
inductive Sp331 (xs : List V) (H : AH) (Q : V → AH → Prop) : Prop
  | of : ∀ a S N, (xs = [.ref a]) → (Rep H a S N) → (∀ H', Rep H' a { S with nv := S.nv + 1 } N → Evo a H H' → Q (.int (S.nv + 1)) H') → Sp331 xs H Q
noncomputable abbrev sp331 : List V → Wp V := Sp331
inductive Sp338 (xs : List V) (H : AH) (Q : V → AH → Prop) : Prop
  | of : ∀ a S N o r, (xs = [.ref a, Op.v o, Op.v r]) → (Rep H a S N) → (Q (.bool (sameRead S o r)) H) → Sp338 xs H Q
noncomputable abbrev sp338 : List V → Wp V := Sp338
inductive Sp345 (xs : List V) (H : AH) (Q : V → AH → Prop) : Prop
  | of : ∀ s o r, (xs = [s, Op.v o, Op.v r]) → (Q (.bool (sameWrite o r)) H) → Sp345 xs H Q
noncomputable abbrev sp345 : List V → Wp V := Sp345
inductive Sp352 (xs : List V) (H : AH) (Q : V → AH → Prop) : Prop
  | of : ∀ a S N o r v, (xs = [.ref a, Op.v o, Op.v r, .int v]) → (Rep H a S N) → (N ≤ 900000) → (∀ H', Rep H' a (writeC S o r v) (N + 2) → Evo a H H' → Q .none H') → Sp352 xs H Q
noncomputable abbrev sp352 : List V → Wp V := Sp352
inductive Sp359 (xs : List V) (H : AH) (Q : V → AH → Prop) : Prop
  | of : ∀ a S N r, (xs = [.ref a, Row.v r]) → (Row.ok r) → (Rep H a S N) → (Q (.int (copied S r)) H) → Sp359 xs H Q
noncomputable abbrev sp359 : List V → Wp V := Sp359
variable {c : Cx} (Fn : Fns c.K)
include Fn
theorem rf331 : RF c 1 331 sp331 := by
  refine rf_of (ps := (["self"] : List Str)) (rest := ([] : List Str)) Fn.f331 (zA1 (rs_augA (zA3 0) zB2) (zA1 (zD4 (zF3 (zA3 0) zF2)) zA6)) ?_ (fun pm cd => len1 (fun _ => by rfl))
  rintro xs H Q wf ⟨a, S, N, rfl, ⟨d, a1, a2, a3, a4, R⟩, q⟩
  refine ⟨rfl, ?_⟩
  show wBody _ [some _] _ _
  obtain ⟨R', E⟩ := R.setNv wf (S.nv + 1)
  show wBody _ [some (.ref a)] H Q
  simp! only [↓at_ R.at' ckF_nv rfl, ↓put_at R.at' hA_nv, ckP_nv, ↓at_ R'.at' ckF_nv rfl]
  exact zB7 E.wf (q _ ⟨_, _, _, _, _, R'⟩ E)
set_option tactic.hygienic true in
theorem rf338 : RF c 1 338 sp338 := by
  have hnd : ((["self", "operand", "real"] : List Str) ++ (["expected"] : List Str)).Nodup := by decide
  refine rf_of (ps := (["self", "operand", "real"] : List Str)) (rest := (["expected"] : List Str)) Fn.f338 (zA1 (zE5 (zC4 (zC2 (zA3 1) zB2 zC1) zC6 zE4) (zA1 (zD4 (re_cmp (zA3 2) (zA3 1) zE4)) zA6) zA6) (zA1 (zE5 (zH4 (zH7 (zC4 (zC2 (zA3 2) zB2 zC1) zC6 rv_ne) (zH7 (zC4 (zC2 (zA3 2) zB2 zC1) (zF3 (zA3 0) zF2) rv_notIn) rts_nilO))) (zA1 (zD4 re_bool) zA6) zA6) (zA1 (zE5 (zC4 (zC2 (zA3 1) zB2 zC1) zC6 zE4) (zA1 (zD6 3 (zD7 (zF3 (zA3 0) zF2) rb_get (zA2 (zC2 (zA3 1) zB2 zC1) (zA2 zB2 zA7)) (gm_dict F.slot_dict_get) _)) zA6) (zA1 (zE5 (zC4 (zC2 (zA3 1) zB2 zC1) (zC2 (zA3 2) zB2 zC1) zE4) (zA1 (zD6 3 (zD7 (zF3 (zA3 0) zF2) rb_get (zA2 (zC2 (zA3 1) zB2 zC1) (zA2 zB2 zA7)) (gm_dict F.slot_dict_get) _)) zA6) (zA1 (zD4 re_bool) zA6)) zA6)) (zA1 (zD4 (re_cmp (zC2 (zF3 (zA3 0) zF2) (zC2 (zA3 2) zB2 zC1) zC1) (zA3 3) zE4)) zA6)))) ?_ (fun pm cd => len3 (fun _ _ _ => by rfl))
  rintro xs H Q wf ⟨a, S, N, o, r, rfl, ⟨d, a1, a2, a3, a4, R⟩, q⟩
  refine ⟨rfl, ?_⟩
  show wBody _ [some _, some _, some _, none] _ _
  cases o <;> cases r <;> dsimp! only [zJ2, wSub_op1, wEq_op, ↓m1_ R.at', ↓at_ R.at' ckF_he rfl]
  all_goals first | exact zB7 wf q | skip
  all_goals
    rename_i n k
    refine R.he.has not ?_
    cases hh : S.he k with
    | none =>
      exact zB7 wf (by simpa [sameRead, hh] using q)
    | some h => ?_
  · dsimp! only [zJ2, wSub_op1, ↓m1_ R.at', ↓at_ R.at' ckF_vo rfl, Option.isSome_some]
    refine ⟨R.vo.ok, R.vo.get ?_⟩
    dsimp! only [zJ2, wSub_op1, ↓m1_ R.at', ↓at_ R.at' ckF_he rfl]
    refine R.he.at hh ?_
    simp! only [↓wEq_int]
    exact zB7 wf (by simpa [sameRead, hh] using q)
  all_goals
    by_cases e : n = k
    · dsimp! only [↓eq_t e, ↓m1_ R.at', ↓at_ R.at' ckF_inc rfl, Option.isSome_some]
      refine ⟨R.inc.ok, R.inc.get ?_⟩
      dsimp! only [zJ2, wSub_op1, ↓m1_ R.at', ↓at_ R.at' ckF_he rfl]
      refine R.he.at hh ?_
      simp! only [↓wEq_int]
      exact zB7 wf (by simpa [sameRead, hh, Op.num, e] using q)
    · dsimp! only [↓eq_f e, ↓m1_ R.at', ↓at_ R.at' ckF_inc rfl, Option.isSome_some]
      exact zB7 wf (by simpa [sameRead, hh, Op.num, e] using q)
theorem rf345 : RF c 1 345 sp345 := by
  refine rf_of (ps := (["self", "operand", "real"] : List Str)) (rest := ([] : List Str)) Fn.f345 (zA1 (zE5 (zC4 (zC2 (zA3 1) zB2 zC1) zC6 zE4) (zA1 (zD4 (re_cmp (zA3 2) (zA3 1) zE4)) zA6) zA6) (zA1 (zE5 (zC4 (zC2 (zA3 1) zB2 zC1) zC6 zE4) (zA1 (zD4 (re_cmp (zA3 2) (zE7 (zA2 zC6 (zA2 (zC2 (zA3 1) zB2 zC1) zA7))) zE4)) zA6) zA6) (zA1 (zD4 (re_cmp (zC2 (zA3 2) zB2 zC1) zC6 zE4)) zA6))) ?_ (fun pm cd => len3 (fun _ _ _ => by rfl))
  rintro xs H Q wf ⟨s, o, r, rfl, q⟩
  refine ⟨rfl, ?_⟩
  show wBody _ [some _, some _, some _] _ _
  cases o <;> cases r <;> dsimp! only [zJ2, wSub_op1, wEq_op, wEq_opx, Nat.reduceAdd, Nat.reduceLeDiff] <;> first | exact zB7 wf q | (refine ⟨by lia, ?_⟩; rw [wEq_opx]; exact zB7 wf q) | skip
theorem rf352 : RF c 1 352 sp352 := by
  refine rf_of (ps := (["self", "operand", "real", "value"] : List Str)) (rest := ([] : List Str)) Fn.f352 (zA1 (zE5 (zC4 (zC2 (zA3 1) zB2 zC1) zC6 zE4) (zA1 rs_ret0 zA6) zA6) (zA1 (rs_asgI (zA3 3) (zF3 (zA3 0) zF2) (zC2 (zA3 2) zB2 zC1)) (zA1 (zE5 (zC4 (zC2 (zA3 1) zB2 zC1) zC6 zE4) (zA1 (rs_asgI (zA3 3) (zF3 (zA3 0) zF2) (zC2 (zA3 1) zB2 zC1)) zA6) (zA1 (rs_asgI (zA3 3) (zF3 (zA3 0) zF2) (zC2 (zA3 1) zB2 zC1)) zA6)) zA6))) ?_ (fun pm cd => len4 (fun _ _ _ _ => by rfl))
  rintro xs H Q wf ⟨a, S, N, o, r, v, rfl, ⟨d, a1, a2, a3, a4, R⟩, hN, q⟩
  refine ⟨rfl, ?_⟩
  show wBody _ [some _, some _, some _, some _] _ _
  cases o with
  | y n =>
    dsimp! only [zJ2, wSub_op1]
    exact zB7 wf (q _ ⟨_, _, _, _, _, R.mono⟩ (Evo.refl wf))
  | t n =>
    dsimp! only [zJ2, wSub_op1, ↓m1_ R.at', ↓at_ R.at' ckF_he rfl]
    refine R.he.put (by lia) fun o hi hw h => ?_
    obtain ⟨R1, E1⟩ := R.putHe wf hi h
    dsimp! only [zJ2, wSub_op1, ↓m1_ R1.at', ↓at_ R1.at' ckF_vo rfl]
    refine R1.vo.put (by lia) fun o' hi' hw' h' => ?_
    obtain ⟨R2, E2⟩ := R1.putVo E1.wf hi' h'
    exact zB7 E2.wf (q _ ⟨_, _, _, _, _, R2⟩ (E1.trans E2))
  | a n =>
    dsimp! only [zJ2, wSub_op1, ↓m1_ R.at', ↓at_ R.at' ckF_he rfl]
    refine R.he.put (by lia) fun o hi hw h => ?_
    obtain ⟨R1, E1⟩ := R.putHe wf hi h
    dsimp! only [zJ2, wSub_op1, ↓m1_ R1.at', ↓at_ R1.at' ckF_out rfl]
    refine R1.out.put (by lia) fun o' hi' hw' h' => ?_
    obtain ⟨R2, E2⟩ := R1.putOut E1.wf hi' h'
    exact zB7 E2.wf (q _ ⟨_, _, _, _, _, R2⟩ (E1.trans E2))
  | x n =>
    dsimp! only [zJ2, wSub_op1, ↓m1_ R.at', ↓at_ R.at' ckF_he rfl]
    refine R.he.put (by lia) fun o hi hw h => ?_
    obtain ⟨R1, E1⟩ := R.putHe wf hi h
    dsimp! only [zJ2, wSub_op1, ↓m1_ R1.at', ↓at_ R1.at' ckF_out rfl]
    refine R1.out.put (by lia) fun o' hi' hw' h' => ?_
    obtain ⟨R2, E2⟩ := R1.putOut E1.wf hi' h'
    exact zB7 E2.wf (q _ ⟨_, _, _, _, _, R2⟩ (E1.trans E2))
theorem rf359 : RF c 1 359 sp359 := by
  have hnd : ((["self", "instruction"] : List Str) ++ (["name", "source"] : List Str)).Nodup := by decide
  refine rf_of (ps := (["self", "instruction"] : List Str)) (rest := (["name", "source"] : List Str)) Fn.f359 (zA1 (zD6 2 (zC2 (zA3 1) zB2 zC1)) (zA1 (zE5 (zC4 (zA3 2) zC6 zE4) (zA1 (zD6 3 (zC2 (zA3 1) zB2 zC1)) zA6) (zA1 (zE5 (zC4 (zA3 2) zC6 zE4) (zA1 (zD6 3 (zC2 (zA3 1) zB2 zC1)) zA6) (zA1 (zD4 zB2) zA6)) zA6)) (zA1 (zE5 (zC4 (zC2 (zA3 3) zB2 zC1) zC6 zE4) (zA1 (zD4 (zD7 (zF3 (zA3 0) zF2) rb_get (zA2 (zC2 (zA3 3) zB2 zC1) (zA2 zB2 zA7)) (gm_dict F.slot_dict_get) _)) zA6) zA6) (zA1 (zE5 (zC4 (zC2 (zA3 3) zB2 zC1) zC6 zE4) (zA1 (zD4 (zD7 (zF3 (zA3 0) zF2) rb_get (zA2 (zC2 (zA3 3) zB2 zC1) (zA2 zB2 zA7)) (gm_dict F.slot_dict_get) _)) zA6) zA6) (zA1 (zD4 zB2) zA6))))) ?_ (fun pm cd => len2 (fun _ _ => by rfl))
  rintro xs H Q wf ⟨a, S, N, r, rfl, ok, ⟨d, a1, a2, a3, a4, R⟩, q⟩
  refine ⟨rfl, ?_⟩
  show wBody _ [some _, some _, none, none] _ _
  by_cases h1 : r.nm = "get_variable"
  · have hp := ok.at (p := (1, 1)) (by rw [h1, rs_gv]; simp)
    unfold copied at q
    simp only [h1, if_true] at q
    simp! only [↓wSub_row0, ↓qs_t ok.nm n_gv h1, ↓wSub_row2 hp]
    generalize opAt r.ps 1 = o at q ⊢
    cases o <;> dsimp! only [↓m1_ R.at', ↓at_ R.at' ckF_vo rfl, ↓at_ R.at' ckF_inc rfl]
    · exact ⟨R.vo.ok, R.vo.get (zB7 wf q)⟩
    · exact ⟨R.inc.ok, R.inc.get (zB7 wf q)⟩
    · exact zB7 wf q
    · exact zB7 wf q
  · by_cases h2 : r.nm = "put_value"
    · have hp := ok.at (p := (1, 0)) (by rw [h2, rs_pv]; simp)
      unfold copied at q
      simp only [h1, h2, if_true, if_false] at q
      simp! only [↓wSub_row0, ↓qs_f ok.nm n_gv h1, ↓qs_t ok.nm n_pv h2, ↓zG4 hp]
      generalize opAt r.ps 0 = o at q ⊢
      cases o <;> dsimp! only [↓m1_ R.at', ↓at_ R.at' ckF_vo rfl, ↓at_ R.at' ckF_inc rfl]
      · exact ⟨R.vo.ok, R.vo.get (zB7 wf q)⟩
      · exact ⟨R.inc.ok, R.inc.get (zB7 wf q)⟩
      · exact zB7 wf q
      · exact zB7 wf q
    · simp! only [↓wSub_row0, ↓qs_f ok.nm n_gv h1, ↓qs_f ok.nm n_pv h2]
      exact zB7 wf (by simpa [copied, h1, h2] using q)
end
section
theorem nk_get_variable : PyData.strOk "get_variable" = true := by kernel_rfl
theorem rs_get_variable : rspec "get_variable" = [(1, 1), (2, 0)] := by kernel_rfl
theorem nk_get_value : PyData.strOk "get_value" = true := by kernel_rfl
theorem rs_get_value : rspec "get_value" = [(1, 0), (1, 1)] := by kernel_rfl
theorem nk_get_constant : PyData.strOk "get_constant" = true := by kernel_rfl
theorem rs_get_constant : rspec "get_constant" = [(1, 1)] := by kernel_rfl
theorem nk_get_structure : PyData.strOk "get_structure" = true := by kernel_rfl
theorem rs_get_structure : rspec "get_structure" = [(1, 1)] := by kernel_rfl
theorem nk_get_list : PyData.strOk "get_list" = true := by kernel_rfl
theorem rs_get_list : rspec "get_list" = [(1, 0)] := by kernel_rfl
theorem nk_unify_variable : PyData.strOk "unify_variable" = true := by kernel_rfl
theorem rs_unify_variable : rspec "unify_variable" = [(2, 0)] := by kernel_rfl
theorem nk_set_variable : PyData.strOk "set_variable" = true := by kernel_rfl
theorem rs_set_variable : rspec "set_variable" = [(2, 0)] := by kernel_rfl
theorem nk_unify_value : PyData.strOk "unify_value" = true := by kernel_rfl
theorem rs_unify_value : rspec "unify_value" = [(1, 0)] := by kernel_rfl
theorem nk_set_value : PyData.strOk "set_value" = true := by kernel_rfl
theorem rs_set_value : rspec "set_value" = [(1, 0)] := by kernel_rfl
theorem nk_unify_local_value : PyData.strOk "unify_local_value" = true := by kernel_rfl
theorem rs_unify_local_value : rspec "unify_local_value" = [(3, 0)] := by kernel_rfl
theorem nk_set_local_value : PyData.strOk "set_local_value" = true := by kernel_rfl
theorem rs_set_local_value : rspec "set_local_value" = [(3, 0)] := by kernel_rfl
theorem nk_put_variable : PyData.strOk "put_variable" = true := by kernel_rfl
theorem rs_put_variable : rspec "put_variable" = [(2, 0), (2, 1)] := by kernel_rfl
theorem nk_put_value : PyData.strOk "put_value" = true := by kernel_rfl
theorem rs_put_value : rspec "put_value" = [(1, 0), (2, 1)] := by kernel_rfl
theorem nk_put_unsafe_value : PyData.strOk "put_unsafe_value" = true := by kernel_rfl
theorem rs_put_unsafe_value : rspec "put_unsafe_value" = [(1, 0), (2, 1)] := by kernel_rfl
theorem nk_put_constant : PyData.strOk "put_constant" = true := by kernel_rfl
theorem rs_put_constant : rspec "put_constant" = [(2, 1)] := by kernel_rfl
theorem nk_put_structure : PyData.strOk "put_structure" = true := by kernel_rfl
theorem rs_put_structure : rspec "put_structure" = [(2, 1)] := by kernel_rfl
theorem nk_put_list : PyData.strOk "put_list" = true := by kernel_rfl
theorem rs_put_list : rspec "put_list" = [(2, 0)] := by kernel_rfl
theorem nk_put_void : PyData.strOk "put_void" = true := by kernel_rfl
theorem rs_put_void : rspec "put_void" = [(2, 0)] := by kernel_rfl
theorem nk_get_level : PyData.strOk "get_level" = true := by kernel_rfl
theorem rs_get_level : rspec "get_level" = [(2, 0)] := by kernel_rfl
theorem nk_mark : PyData.strOk "mark" = true := by kernel_rfl
theorem rs_mark : rspec "mark" = [(2, 0)] := by kernel_rfl
theorem nk_cut_to : PyData.strOk "cut_to" = true := by kernel_rfl
theorem rs_cut_to : rspec "cut_to" = [(1, 0)] := by kernel_rfl
theorem nk_call : PyData.strOk "call" = true := by kernel_rfl
theorem nk_execute : PyData.strOk "execute" = true := by kernel_rfl
theorem nk_builtin : PyData.strOk "builtin" = true := by kernel_rfl
noncomputable def ends (r : Row) : Bool := decide (r.nm = "call" ∨ r.nm = "execute" ∨ r.nm = "builtin")
inductive Sp186 (xs : List V) (H : AH) (Q : V → AH → Prop) : Prop
  | of : ∀ r, (xs = [Row.v r]) → (Row.ok r) → (∀ n, H n = none → Q (.ref n) (H.set n (.list (rolesV r)))) → Sp186 xs H Q
noncomputable abbrev sp186 : List V → Wp V := Sp186
inductive Sp193 (xs : List V) (H : AH) (Q : V → AH → Prop) : Prop
  | of : ∀ r, (xs = [Row.v r]) → (PyData.strOk r.nm = true) → (Q (.bool (ends r)) H) → Sp193 xs H Q
noncomputable abbrev sp193 : List V → Wp V := Sp193
variable {c : Cx} (Fn : Fns c.K)
include Fn
omit Fn in
theorem rs_of {r : Row} {x : Str} {l} (h : r.nm = x) (e : rspec x = l) : rspec r.nm = l := h ▸ e
omit Fn in
theorem inH {α : Type} {l r : List α} {x : α} (e : l = x :: r) : x ∈ l := e ▸ .head _
omit Fn in
theorem inT {α : Type} {l r : List α} {x y : α} (e : l = y :: x :: r) : x ∈ l := e ▸ .tail _ (.head _)
theorem rf186 : RF c 1 186 sp186 := by
  have hnd : ((["instruction"] : List Str) ++ (["name"] : List Str)).Nodup := by decide
  refine rf_of (ps := (["instruction"] : List Str)) (rest := (["name"] : List Str)) Fn.f186 (zA1 (zD6 1 (zC2 (zA3 0) zB2 zC1)) (zA1 (zE5 (zC4 (zA3 1) zC6 zE4) (zA1 (zD4 (zE2 (zA2 (zE7 (zA2 (zF6 1) (zA2 (zC2 (zA3 0) zB2 zC1) zA7))) (zA2 (zE7 (zA2 (zF6 2) (zA2 (zC2 (zA3 0) zB2 zC1) zA7))) zA7)))) zA6) zA6) (zA1 (zE5 (zC4 (zA3 1) zC6 zE4) (zA1 (zD4 (zE2 (zA2 (zE7 (zA2 (zF6 1) (zA2 (zC2 (zA3 0) zB2 zC1) zA7))) (zA2 (zE7 (zA2 (zF6 1) (zA2 (zC2 (zA3 0) zB2 zC1) zA7))) zA7)))) zA6) zA6) (zA1 (zE5 (zH4 (zH7 (zC4 (zA3 1) zC6 zE4) (zH7 (zC4 (zA3 1) zC6 zE4) rts_nilO))) (zA1 (zD4 (zE2 (zA2 (zE7 (zA2 (zF6 1) (zA2 (zC2 (zA3 0) zB2 zC1) zA7))) zA7))) zA6) zA6) (zA1 (zE5 (zC4 (zA3 1) zC6 zE4) (zA1 (zD4 (zE2 (zA2 (zE7 (zA2 (zF6 1) (zA2 (zC2 (zA3 0) zB2 zC1) zA7))) zA7))) zA6) zA6) (zA1 (zE5 (zH4 (zH7 (zC4 (zA3 1) zC6 zE4) (zH7 (zC4 (zA3 1) zC6 zE4) rts_nilO))) (zA1 (zD4 (zE2 (zA2 (zE7 (zA2 (zF6 2) (zA2 (zC2 (zA3 0) zB2 zC1) zA7))) zA7))) zA6) zA6) (zA1 (zE5 (zH4 (zH7 (zC4 (zA3 1) zC6 zE4) (zH7 (zC4 (zA3 1) zC6 zE4) rts_nilO))) (zA1 (zD4 (zE2 (zA2 (zE7 (zA2 (zF6 1) (zA2 (zC2 (zA3 0) zB2 zC1) zA7))) zA7))) zA6) zA6) (zA1 (zE5 (zH4 (zH7 (zC4 (zA3 1) zC6 zE4) (zH7 (zC4 (zA3 1) zC6 zE4) rts_nilO))) (zA1 (zD4 (zE2 (zA2 (zE7 (zA2 (zF6 3) (zA2 (zC2 (zA3 0) zB2 zC1) zA7))) zA7))) zA6) zA6) (zA1 (zE5 (zC4 (zA3 1) zC6 zE4) (zA1 (zD4 (zE2 (zA2 (zE7 (zA2 (zF6 2) (zA2 (zC2 (zA3 0) zB2 zC1) zA7))) (zA2 (zE7 (zA2 (zF6 2) (zA2 (zC2 (zA3 0) zB2 zC1) zA7))) zA7)))) zA6) zA6) (zA1 (zE5 (zH4 (zH7 (zC4 (zA3 1) zC6 zE4) (zH7 (zC4 (zA3 1) zC6 zE4) rts_nilO))) (zA1 (zD4 (zE2 (zA2 (zE7 (zA2 (zF6 1) (zA2 (zC2 (zA3 0) zB2 zC1) zA7))) (zA2 (zE7 (zA2 (zF6 2) (zA2 (zC2 (zA3 0) zB2 zC1) zA7))) zA7)))) zA6) zA6) (zA1 (zE5 (zH4 (zH7 (zC4 (zA3 1) zC6 zE4) (zH7 (zC4 (zA3 1) zC6 zE4) rts_nilO))) (zA1 (zD4 (zE2 (zA2 (zE7 (zA2 (zF6 2) (zA2 (zC2 (zA3 0) zB2 zC1) zA7))) zA7))) zA6) zA6) (zA1 (zE5 (zH4 (zH7 (zC4 (zA3 1) zC6 zE4) (zH7 (zC4 (zA3 1) zC6 zE4) rts_nilO))) (zA1 (zD4 (zE2 (zA2 (zE7 (zA2 (zF6 2) (zA2 (zC2 (zA3 0) zB2 zC1) zA7))) zA7))) zA6) zA6) (zA1 (zE5 (zH4 (zH7 (zC4 (zA3 1) zC6 zE4) (zH7 (zC4 (zA3 1) zC6 zE4) rts_nilO))) (zA1 (zD4 (zE2 (zA2 (zE7 (zA2 (zF6 2) (zA2 (zC2 (zA3 0) zB2 zC1) zA7))) zA7))) zA6) zA6) (zA1 (zE5 (zC4 (zA3 1) zC6 zE4) (zA1 (zD4 (zE2 (zA2 (zE7 (zA2 (zF6 1) (zA2 (zC2 (zA3 0) zB2 zC1) zA7))) zA7))) zA6) zA6) (zA1 (zD4 (zE2 zA7)) zA6))))))))))))))) ?_ (fun pm cd => len1 (fun _ => by rfl))
  rintro xs H Q wf ⟨r, rfl, ok, q⟩
  refine ⟨rfl, ?_⟩
  show wBody _ [some r.v, none] H Q
  have fin : ∀ {l}, rspec r.nm = l → ∀ n, H n = none → ∃ H'', Sub H'' (H.set n (.list ((l.map fun p => (p.1, opAt r.ps p.2)).map fun p => .tup [.int p.1, p.2.v]))) ∧ Q (.ref n) H'' := fun e n hn => e ▸ ⟨_, Sub.self (wf.new hn), q n hn⟩
  simp! only [↓wSub_row0]
  by_cases h0 : r.nm = "get_variable"
  · have e := rs_of h0 rs_get_variable
    have p0 := ok.at (inH e)
    have p1 := ok.at (inT e)
    simp! only [↓qs_t ok.nm nk_get_variable h0, ↓wSub_row2 p0, ↓zG4 p1]
    exact ⟨by lia, by lia, by lia, fin e⟩
  simp! only [↓qs_f ok.nm nk_get_variable h0]
  by_cases h1 : r.nm = "get_value"
  · have e := rs_of h1 rs_get_value
    have p0 := ok.at (inH e)
    have p1 := ok.at (inT e)
    simp! only [↓qs_t ok.nm nk_get_value h1, ↓zG4 p0, ↓wSub_row2 p1]
    exact ⟨by lia, by lia, by lia, fin e⟩
  simp! only [↓qs_f ok.nm nk_get_value h1]
  by_cases h2 : r.nm = "get_constant"
  · have e := rs_of h2 rs_get_constant
    have p0 := ok.at (inH e)
    simp! only [↓qs_t ok.nm nk_get_constant h2, ↓wSub_row2 p0]
    exact ⟨by lia, by lia, fin e⟩
  simp! only [↓qs_f ok.nm nk_get_constant h2]
  by_cases h3 : r.nm = "get_structure"
  · have e := rs_of h3 rs_get_structure
    have p0 := ok.at (inH e)
    simp! only [↓qs_t ok.nm nk_get_structure h3, ↓wSub_row2 p0]
    exact ⟨by lia, by lia, fin e⟩
  simp! only [↓qs_f ok.nm nk_get_structure h3]
  by_cases h4 : r.nm = "get_list"
  · have e := rs_of h4 rs_get_list
    have p0 := ok.at (inH e)
    simp! only [↓qs_t ok.nm nk_get_list h4, ↓zG4 p0]
    exact ⟨by lia, by lia, fin e⟩
  simp! only [↓qs_f ok.nm nk_get_list h4]
  by_cases h5 : r.nm = "unify_variable"
  · have e := rs_of h5 rs_unify_variable
    have p0 := ok.at (inH e)
    simp! only [↓qs_t ok.nm nk_unify_variable h5, ↓zG4 p0]
    exact ⟨by lia, by lia, fin e⟩
  simp! only [↓qs_f ok.nm nk_unify_variable h5]
  by_cases h6 : r.nm = "set_variable"
  · have e := rs_of h6 rs_set_variable
    have p0 := ok.at (inH e)
    simp! only [↓qs_t ok.nm nk_set_variable h6, ↓zG4 p0]
    exact ⟨by lia, by lia, fin e⟩
  simp! only [↓qs_f ok.nm nk_set_variable h6]
  by_cases h7 : r.nm = "unify_value"
  · have e := rs_of h7 rs_unify_value
    have p0 := ok.at (inH e)
    simp! only [↓qs_t ok.nm nk_unify_value h7, ↓zG4 p0]
    exact ⟨by lia, by lia, fin e⟩
  simp! only [↓qs_f ok.nm nk_unify_value h7]
  by_cases h8 : r.nm = "set_value"
  · have e := rs_of h8 rs_set_value
    have p0 := ok.at (inH e)
    simp! only [↓qs_t ok.nm nk_set_value h8, ↓zG4 p0]
    exact ⟨by lia, by lia, fin e⟩
  simp! only [↓qs_f ok.nm nk_set_value h8]
  by_cases h9 : r.nm = "unify_local_value"
  · have e := rs_of h9 rs_unify_local_value
    have p0 := ok.at (inH e)
    simp! only [↓qs_t ok.nm nk_unify_local_value h9, ↓zG4 p0]
    exact ⟨by lia, by lia, fin e⟩
  simp! only [↓qs_f ok.nm nk_unify_local_value h9]
  by_cases h10 : r.nm = "set_local_value"
  · have e := rs_of h10 rs_set_local_value
    have p0 := ok.at (inH e)
    simp! only [↓qs_t ok.nm nk_set_local_value h10, ↓zG4 p0]
    exact ⟨by lia, by lia, fin e⟩
  simp! only [↓qs_f ok.nm nk_set_local_value h10]
  by_cases h11 : r.nm = "put_variable"
  · have e := rs_of h11 rs_put_variable
    have p0 := ok.at (inH e)
    have p1 := ok.at (inT e)
    simp! only [↓qs_t ok.nm nk_put_variable h11, ↓zG4 p0, ↓wSub_row2 p1]
    exact ⟨by lia, by lia, by lia, fin e⟩
  simp! only [↓qs_f ok.nm nk_put_variable h11]
  by_cases h12 : r.nm = "put_value"
  · have e := rs_of h12 rs_put_value
    have p0 := ok.at (inH e)
    have p1 := ok.at (inT e)
    simp! only [↓qs_t ok.nm nk_put_value h12, ↓zG4 p0, ↓wSub_row2 p1]
    exact ⟨by lia, by lia, by lia, fin e⟩
  simp! only [↓qs_f ok.nm nk_put_value h12]
  by_cases h13 : r.nm = "put_unsafe_value"
  · have e := rs_of h13 rs_put_unsafe_value
    have p0 := ok.at (inH e)
    have p1 := ok.at (inT e)
    simp! only [↓qs_t ok.nm nk_put_unsafe_value h13, ↓zG4 p0, ↓wSub_row2 p1]
    exact ⟨by lia, by lia, by lia, fin e⟩
  simp! only [↓qs_f ok.nm nk_put_unsafe_value h13]
  by_cases h14 : r.nm = "put_constant"
  · have e := rs_of h14 rs_put_constant
    have p0 := ok.at (inH e)
    simp! only [↓qs_t ok.nm nk_put_constant h14, ↓wSub_row2 p0]
    exact ⟨by lia, by lia, fin e⟩
  simp! only [↓qs_f ok.nm nk_put_constant h14]
  by_cases h15 : r.nm = "put_structure"
  · have e := rs_of h15 rs_put_structure
    have p0 := ok.at (inH e)
    simp! only [↓qs_t ok.nm nk_put_structure h15, ↓wSub_row2 p0]
    exact ⟨by lia, by lia, fin e⟩
  simp! only [↓qs_f ok.nm nk_put_structure h15]
  by_cases h16 : r.nm = "put_list"
  · have e := rs_of h16 rs_put_list
    have p0 := ok.at (inH e)
    simp! only [↓qs_t ok.nm nk_put_list h16, ↓zG4 p0]
    exact ⟨by lia, by lia, fin e⟩
  simp! only [↓qs_f ok.nm nk_put_list h16]
  by_cases h17 : r.nm = "put_void"
  · have e := rs_of h17 rs_put_void
    have p0 := ok.at (inH e)
    simp! only [↓qs_t ok.nm nk_put_void h17, ↓zG4 p0]
    exact ⟨by lia, by lia, fin e⟩
  simp! only [↓qs_f ok.nm nk_put_void h17]
  by_cases h18 : r.nm = "get_level"
  · have e := rs_of h18 rs_get_level
    have p0 := ok.at (inH e)
    simp! only [↓qs_t ok.nm nk_get_level h18, ↓zG4 p0]
    exact ⟨by lia, by lia, fin e⟩
  simp! only [↓qs_f ok.nm nk_get_level h18]
  by_cases h19 : r.nm = "mark"
  · have e := rs_of h19 rs_mark
    have p0 := ok.at (inH e)
    simp! only [↓qs_t ok.nm nk_mark h19, ↓zG4 p0]
    exact ⟨by lia, by lia, fin e⟩
  simp! only [↓qs_f ok.nm nk_mark h19]
  by_cases h20 : r.nm = "cut_to"
  · have e := rs_of h20 rs_cut_to
    have p0 := ok.at (inH e)
    simp! only [↓qs_t ok.nm nk_cut_to h20, ↓zG4 p0]
    exact ⟨by lia, by lia, fin e⟩
  simp! only [↓qs_f ok.nm nk_cut_to h20]
  have e : rspec r.nm = [] := by simp only [rspec, h0, h1, h2, h3, h4, h5, h6, h7, h8, h9, h10, h11, h12, h13, h14, h15, h16, h17, h18, h19, h20, or_self, if_false]
  exact ⟨by lia, fin e⟩
theorem rf193 : RF c 1 193 sp193 := by
  have hnd : ((["instruction"] : List Str) ++ (["name"] : List Str)).Nodup := by decide
  refine rf_of (ps := (["instruction"] : List Str)) (rest := (["name"] : List Str)) Fn.f193 (zA1 (zD6 1 (zC2 (zA3 0) zB2 zC1)) (zA1 (zD4 (re_bool' (reb_or (re_cmp (zA3 1) zC6 zE4) (reb_or (re_cmp (zA3 1) zC6 zE4) (reb_one (re_cmp (zA3 1) zC6 zE4)))))) zA6)) ?_ (fun pm cd => len1 (fun _ => by rfl))
  rintro xs H Q wf ⟨r, rfl, ok, q⟩
  refine ⟨rfl, ?_⟩
  simp! only [↓wSub_row0]
  unfold ends at q
  by_cases h1 : r.nm = "call"
  · simp only [↓qs_t ok nk_call h1]
    exact zB7 wf (by simpa [h1] using q)
  · simp! only [↓qs_f ok nk_call h1]
    by_cases h2 : r.nm = "execute"
    · simp only [↓qs_t ok nk_execute h2]
      exact zB7 wf (by simpa [h2] using q)
    · simp! only [↓qs_f ok nk_execute h2]
      by_cases h3 : r.nm = "builtin"
      · simp only [↓qs_t ok nk_builtin h3]
        exact zB7 wf (by simpa [h3] using q)
      · simp only [↓qs_f ok nk_builtin h3]
        exact zB7 wf (by simpa [h1, h2, h3] using q)
end
section
open Classical in
noncomputable def stand (S : Ck) (r : Row) : Bool := decide (ends r = true → ∀ k v, S.out k = some v → (S.he k).getD 0 = v)
open Classical in
theorem stand_iff {S : Ck} {r : Row} : stand S r = true ↔ (ends r = true → ∀ k v, S.out k = some v → (S.he k).getD 0 = v) := by unfold stand; exact decide_eq_true_iff
theorem look_key {K : Type} [DecidableEq K] : ∀ {es : List (K × V)} {p : K × V}, p ∈ es → (look es p.1).isSome = true
  | (k, X) :: es, p, h => by
    unfold look
    simp only [List.find?_cons]
    by_cases e : k = p.1
    · simp [e]
    · simp only [e, decide_false]
      rcases List.mem_cons.mp h with h | h
      · subst h; exact absurd rfl e
      · exact look_key h
theorem look_mem {K : Type} [DecidableEq K] : ∀ {es : List (K × V)} {k : K} {X : V}, look es k = some X → ∃ p ∈ es, p.1 = k
  | [], _, _, h => by simp [look] at h
  | (q, Y) :: es, k, X, h => by
    by_cases e : q = k
    · exact ⟨_, .head _, e⟩
    · unfold look at h
      simp only [List.find?_cons] at h
      simp only [e, decide_false] at h
      obtain ⟨p, hp, hk⟩ := look_mem (es := es) h
      exact ⟨p, .tail _ hp, hk⟩
theorem IsD.src {H : AH} {a f N} (h : IsD H a f N) : ∃ ep es, IsSrc H (.ref a) (.dict a ep es) ∧ Still H (.dict a ep es) ∧ (∀ k : Int, look es k = (f k).map V.int) := by
  obtain ⟨es, h1, h2, h3⟩ := h
  rcases h3 with ⟨ep, h3⟩ | ⟨h4, ep, h3⟩
  · exact ⟨ep, es, .dict h3, .inl h3, h1⟩
  · subst h4
    exact ⟨ep, [], .dictE h3, .inr ⟨rfl, h3⟩, h1⟩
inductive Sp380 (xs : List V) (H : AH) (Q : V → AH → Prop) : Prop
  | of : ∀ a S N r, (xs = [.ref a, Row.v r]) → (PyData.strOk r.nm = true) → (Rep H a S N) → (Q (.bool (stand S r)) H) → Sp380 xs H Q
noncomputable abbrev sp380 : List V → Wp V := Sp380
variable {c : Cx} (Fn : Fns c.K)
include Fn
theorem rf380 : RF c 2 380 sp380 := by
  have h193 := (rf193 Fn)
  have hnd : ((["self", "instruction"] : List Str) ++ (["number"] : List Str)).Nodup := by decide
  refine rf_of (ps := (["self", "instruction"] : List Str)) (rest := (["number"] : List Str)) Fn.f380 (zA1 (zE5 (rt_of (zE6 (f := 193) h193 (zA2 (zA3 1) zA7))) (zA1 (rs_for (zF3 (zA3 0) zF2) (tg_name 2) (zA1 (zE5 (zC4 (zD7 (zF3 (zA3 0) zF2) rb_get (zA2 (zA3 2) (zA2 zB2 zA7)) (gm_dict F.slot_dict_get) _) (zC2 (zF3 (zA3 0) zF2) (zA3 2) zC1) rv_ne) (zA1 (zD4 re_bool) zA6) zA6) zA6)) zA6) zA6) (zA1 (zD4 re_bool) zA6)) ?_ (fun pm cd => len2 (fun _ _ => by rfl))
  rintro xs H Q wf ⟨a, S, N, r, rfl, ok, ⟨d, a1, a2, a3, a4, R⟩, q⟩
  refine ⟨rfl, ?_⟩
  simp! only []
  refine ⟨_, rfl, ok, ?_⟩
  cases he : ends r with
  | false =>
    simp! only []
    have e' : stand S r = true := stand_iff.mpr fun h => by rw [he] at h; cases h
    exact zB7 wf (by rw [← e']; exact q)
  | true =>
    obtain ⟨ep, es, h1, h2, h3⟩ := R.out.src
    simp! only [↓wFor, ↓m1_ R.at', ↓at_ R.at' ckF_out rfl]
    refine ⟨_, h1, trivial, ?_⟩
    have val : ∀ p ∈ es, ∃ v, S.out p.1 = some v := fun p hp => by
      have := look_key hp
      rw [h3] at this
      cases z : S.out p.1 with
      | none => rw [z] at this; cases this
      | some v => exact ⟨v, rfl⟩
    by_cases hs : ∀ k v, S.out k = some v → (S.he k).getD 0 = v
    · have e' : stand S r = true := stand_iff.mpr fun _ => hs
      have q' : Q (.bool true) H := by rw [← e']; exact q
      have key : ∀ (ps : List (Int × V)) (l2 : Option V), (∀ p ∈ ps, p ∈ es) → ∀ K : Fl → AH → Prop, (∀ l', K (.next l') H) → wLoop (Src.dict a4 ep es) (zG2 2) (zB3 (zG3 (zB4 (zC3 (zD2 isDict (wOne (zB1 0) (zJ3 (Str.ofString "held"))) wGet (zA4 (zB1 2) (zA4 (zA5 (V.int 0)) zB5)))
          (zC3 (wOne (zB1 0) (zJ3 (Str.ofString "outgoing"))) (zB1 2) zD5) wNe)) (zB3 (wRet (zA5 (V.bool false))) zB6) zB6) zB6) (ps.map fun p => .int p.1) [some (.ref a), some r.v, l2] H K := by
        intro ps
        induction ps with
        | nil => intro l2 _ K hK; exact hK _
        | cons p ps ih =>
          intro l2 hp K hK
          obtain ⟨v, hv⟩ := val p (hp p (.head _))
          simp! only [↓wLoop, ↓m1_ R.at', ↓at_ R.at' ckF_he rfl]
          refine ⟨R.he.ok, R.he.get ?_⟩
          simp! only [↓m1_ R.at', ↓at_ R.at' ckF_out rfl]
          refine R.out.at hv ?_
          simp! only [↓ne_f (hs p.1 v hv)]
          exact ⟨h2, ih _ (fun x hx => hp x (.tail _ hx)) K hK⟩
      exact key es none (fun _ h => h) _ fun l' => zB7 wf q'
    · have e' : stand S r = false := Bool.eq_false_iff.mpr fun h => hs (stand_iff.mp h he)
      have q' : Q (.bool false) H := by rw [← e']; exact q
      have key : ∀ (ps : List (Int × V)) (l2 : Option V), (∀ p ∈ ps, p ∈ es) → (∃ p ∈ ps, ∃ v, S.out p.1 = some v ∧ (S.he p.1).getD 0 ≠ v) → ∀ K : Fl → AH → Prop, K (.ret (.bool false)) H → wLoop (Src.dict a4 ep es) (zG2 2) (zB3 (zG3 (zB4 (zC3 (zD2 isDict (wOne (zB1 0) (zJ3 (Str.ofString "held"))) wGet (zA4 (zB1 2) (zA4 (zA5 (V.int 0)) zB5)))
          (zC3 (wOne (zB1 0) (zJ3 (Str.ofString "outgoing"))) (zB1 2) zD5) wNe)) (zB3 (wRet (zA5 (V.bool false))) zB6) zB6) zB6) (ps.map fun p => .int p.1) [some (.ref a), some r.v, l2] H K := by
        intro ps
        induction ps with
        | nil => intro l2 _ hx K hK; obtain ⟨p, hp, _⟩ := hx; cases hp
        | cons p ps ih =>
          intro l2 hp hx K hK
          obtain ⟨v, hv⟩ := val p (hp p (.head _))
          simp! only [↓wLoop, ↓m1_ R.at', ↓at_ R.at' ckF_he rfl]
          refine ⟨R.he.ok, R.he.get ?_⟩
          simp! only [↓m1_ R.at', ↓at_ R.at' ckF_out rfl]
          refine R.out.at hv ?_
          by_cases e : (S.he p.1).getD 0 = v
          · simp! only [↓ne_f e]
            refine ⟨h2, ih _ (fun x hx => hp x (.tail _ hx)) ?_ K hK⟩
            obtain ⟨p', hp', v', hv', hne⟩ := hx
            rcases List.mem_cons.mp hp' with rfl | hp'
            · rw [hv] at hv'; cases hv'; exact absurd e hne
            · exact ⟨p', hp', v', hv', hne⟩
          · simp! only [↓ne_t e]
            exact hK
      refine key es none (fun _ h => h) ?_ _ (zB7 wf q')
      have : ∃ k v, S.out k = some v ∧ (S.he k).getD 0 ≠ v := by
        refine Classical.byContradiction fun hn => hs fun k v hv => Classical.byContradiction fun hne => hn ⟨k, v, hv, hne⟩
      obtain ⟨k, v, hv, hne⟩ := this
      obtain ⟨p, hp, rfl⟩ := look_mem (es := es) (k := k) (X := .int v) (by rw [h3, hv]; rfl)
      exact ⟨p, hp, v, hv, hne⟩
end
section
noncomputable def copyTgt (r : Row) : Op := if r.nm = "get_variable" then opAt r.ps 0 else opAt r.ps 1
noncomputable def leftOut (S : Ck) (r : Row) : Bool × Ck :=
  if copied S r = 0 then (false, S) else match copyTgt r with
    | .t n => (true, { S with vo := upd S.vo n (copied S r) })
    | .a n => if (S.he n).getD 0 = copied S r then (true, { S with out := upd S.out n (copied S r) }) else (false, S)
    | _ => (false, S)
inductive Sp394 (xs : List V) (H : AH) (Q : V → AH → Prop) : Prop
  | of : ∀ a S N r, (xs = [.ref a, Row.v r]) → (Row.ok r) → (Rep H a S N) → (N ≤ 900000) → (∀ H', Rep H' a (leftOut S r).2 (N + 1) → Evo a H H' → Q (.bool (leftOut S r).1) H') → Sp394 xs H Q
noncomputable abbrev sp394 : List V → Wp V := Sp394
variable {c : Cx} (Fn : Fns c.K)
include Fn
theorem rf394 : RF c 2 394 sp394 := by
  have h359 := (rf359 Fn)
  have hnd : ((["self", "instruction"] : List Str) ++ (["value", "target"] : List Str)).Nodup := by decide
  refine rf_of (ps := (["self", "instruction"] : List Str)) (rest := (["value", "target"] : List Str)) Fn.f394 (zA1 (zD6 2 (zJ1 (f := 359) 397 (zA3 0) h359 (zA2 (zA3 1) zA7) _)) (zA1 (zE5 (zC4 (zA3 2) zB2 zE4) (zA1 (zD4 re_bool) zA6) zA6) (zA1 (zD6 3 (re_if (zC4 (zC2 (zA3 1) zB2 zC1) zC6 zE4) (zC2 (zA3 1) zB2 zC1) (zC2 (zA3 1) zB2 zC1))) (zA1 (zE5 (zC4 (zC2 (zA3 3) zB2 zC1) zC6 zE4) (zA1 (rs_asgI (zA3 2) (zF3 (zA3 0) zF2) (zC2 (zA3 3) zB2 zC1)) (zA1 (zD4 re_bool) zA6)) zA6) (zA1 (zE5 (zH4 (rts_and (zC4 (zC2 (zA3 3) zB2 zC1) zC6 zE4) (rts_and (zC4 (zD7 (zF3 (zA3 0) zF2) rb_get (zA2 (zC2 (zA3 3) zB2 zC1) (zA2 zB2 zA7)) (gm_dict F.slot_dict_get) _) (zA3 2) zE4) rts_nilA))) (zA1 (rs_asgI (zA3 2) (zF3 (zA3 0) zF2) (zC2 (zA3 3) zB2 zC1)) (zA1 (zD4 re_bool) zA6)) zA6) (zA1 (zD4 re_bool) zA6)))))) ?_ (fun pm cd => len2 (fun _ _ => by rfl))
  rintro xs H Q wf ⟨a, S, N, r, rfl, ok, RR, hN, q⟩
  refine ⟨rfl, ?_⟩
  show wBody _ [some _, some _, none, none] _ _
  have RR' := RR
  obtain ⟨d, a1, a2, a3, a4, R⟩ := RR
  have keep : ∀ M, N ≤ M → Rep H a S M := fun M h => ⟨_, _, _, _, _, R.mono h⟩
  simp! only [↓m1_ R.at']
  refine ⟨a, S, N, r, rfl, ok, RR', ?_⟩
  by_cases hc : copied S r = 0
  · simp! only [↓eq_t hc]
    refine zB7 wf ?_
    have := q H (by simp only [leftOut, hc, if_true]; exact keep _ (by lia)) (Evo.refl wf)
    simpa [leftOut, hc] using this
  simp! only [↓eq_f hc, ↓wSub_row0]
  by_cases h1 : r.nm = "get_variable"
  · have p0 := ok.at (p := (2, 0)) (by rw [h1, rs_gv]; simp)
    simp! only [↓qs_t ok.nm n_gv h1, ↓zG4 p0]
    have hT : copyTgt r = opAt r.ps 0 := by simp only [copyTgt, h1, if_true]
    generalize opAt r.ps 0 = o at hT ⊢
    have hq : ∀ H', Rep H' a (leftOut S r).2 (N + 1) → Evo a H H' → Q (.bool (leftOut S r).1) H' := q
    unfold leftOut at hq
    simp only [hc, if_false, hT] at hq
    cases o with
    | t n =>
      dsimp! only [↓m1_ R.at', ↓at_ R.at' ckF_vo rfl]
      refine R.vo.put (by lia) fun o hi hw h => ?_
      refine zC5 fun _ hk => ?_
      obtain ⟨R1, E1⟩ := R.putVo wf hi h
      refine hk ?_
      exact zB7 E1.wf (hq _ ⟨_, _, _, _, _, R1⟩ E1)
    | a n =>
      dsimp! only [↓m1_ R.at', ↓at_ R.at' ckF_he rfl]
      refine ⟨R.he.ok, R.he.get ?_⟩
      by_cases e : (S.he n).getD 0 = copied S r
      · simp only [e, if_true] at hq
        dsimp! only [↓eq_t e, ↓m1_ R.at', ↓at_ R.at' ckF_out rfl]
        refine R.out.put (by lia) fun o hi hw h => ?_
        obtain ⟨R1, E1⟩ := R.putOut wf hi h
        exact zB7 E1.wf (hq _ ⟨_, _, _, _, _, R1⟩ E1)
      · simp only [e, if_false] at hq
        dsimp! only [↓eq_f e]
        exact zB7 wf (hq _ (keep _ (by lia)) (Evo.refl wf))
    | y n =>
      dsimp! only []
      exact zB7 wf (hq _ (keep _ (by lia)) (Evo.refl wf))
    | x n =>
      dsimp! only []
      exact zB7 wf (hq _ (keep _ (by lia)) (Evo.refl wf))
  · have h2 : r.nm = "put_value" := Classical.byContradiction fun h2 => hc (by simp only [copied, h1, h2, if_false])
    have p0 := ok.at (p := (2, 1)) (by rw [h2, rs_pv]; simp)
    simp! only [↓qs_f ok.nm n_gv h1, ↓wSub_row2 p0]
    have hT : copyTgt r = opAt r.ps 1 := by simp only [copyTgt, h1, if_false]
    generalize opAt r.ps 1 = o at hT ⊢
    have hq : ∀ H', Rep H' a (leftOut S r).2 (N + 1) → Evo a H H' → Q (.bool (leftOut S r).1) H' := q
    unfold leftOut at hq
    simp only [hc, if_false, hT] at hq
    cases o with
    | t n =>
      dsimp! only [↓m1_ R.at', ↓at_ R.at' ckF_vo rfl]
      refine R.vo.put (by lia) fun o hi hw h => ?_
      refine zC5 fun _ hk => ?_
      obtain ⟨R1, E1⟩ := R.putVo wf hi h
      refine hk ?_
      exact zB7 E1.wf (hq _ ⟨_, _, _, _, _, R1⟩ E1)
    | a n =>
      dsimp! only [↓m1_ R.at', ↓at_ R.at' ckF_he rfl]
      refine ⟨R.he.ok, R.he.get ?_⟩
      by_cases e : (S.he n).getD 0 = copied S r
      · simp only [e, if_true] at hq
        dsimp! only [↓eq_t e, ↓m1_ R.at', ↓at_ R.at' ckF_out rfl]
        refine R.out.put (by lia) fun o hi hw h => ?_
        obtain ⟨R1, E1⟩ := R.putOut wf hi h
        exact zB7 E1.wf (hq _ ⟨_, _, _, _, _, R1⟩ E1)
      · simp only [e, if_false] at hq
        dsimp! only [↓eq_f e]
        exact zB7 wf (hq _ (keep _ (by lia)) (Evo.refl wf))
    | y n =>
      dsimp! only []
      exact zB7 wf (hq _ (keep _ (by lia)) (Evo.refl wf))
    | x n =>
      dsimp! only []
      exact zB7 wf (hq _ (keep _ (by lia)) (Evo.refl wf))
end
section
noncomputable def ptEq : Pt → Pt → Bool
  | .op o, .op p => decide (o = p)
  | .op _, .num _ => false
  | .num _, .op _ => false
  | .num i, .num j => decide (i = j)
noncomputable def isXP : Pt → Bool
  | .op (.x _) => true
  | _ => false
noncomputable def isTAP : Pt → Bool
  | .op (.t _) => true
  | .op (.a _) => true
  | _ => false
noncomputable def samePart (a b : Pt) : Bool := cond (isTAP a) (isXP b) (ptEq a b)
noncomputable def zJ4 (r p : Row) : Bool := decide (r.ps.length = p.ps.length) && decide (r.nm = p.nm) && (r.ps.zip p.ps).all fun x => samePart x.1 x.2
theorem wLen_row {r : Row} {H : AH} {Q : V → AH → Prop} : wLen [r.v] H Q = (r.ps.length + 1 ≤ 1000000 ∧ Q (.int (r.ps.length + 1 : Nat)) H) := by
  dsimp only [Row.v, wLen]; simp
theorem pt_1 {o : Op} {j : Int} : ptEq (.op o) (.num j) = false := rfl
theorem pt_2 {o : Op} {j : Int} : ptEq (.num j) (.op o) = false := rfl
theorem wNe_pt {a b : Pt} {H : AH} {Q : V → AH → Prop} : wNe a.v b.v H Q = Q (.bool (!ptEq a b)) H := by
  cases a with
  | op o =>
    cases b with
    | op p => exact wNe_op
    | num j => unfold wNe; simp [Pt.v, Op.v, asI, asT, okC, okN, okS, okI, Op.tag_ok, PyData.eqv, pt_1, pt_2]
  | num i =>
    cases b with
    | op p => unfold wNe; simp [Pt.v, Op.v, asI, asT, okC, okN, okS, okI, Op.tag_ok, PyData.eqv, pt_1, pt_2]
    | num j => exact wNe_int
theorem wSub_rowi {r : Row} {i : Nat} {a : Pt} (h : r.ps[i]? = some a) (hi : i < 100) {H : AH} {Q : V → AH → Prop} : zD5 r.v (.int (i + 1)) H Q = Q a.v H := by
  have e : ((i : Int) + 1).toNat = i + 1 := by lia
  dsimp only [Row.v, zD5]
  simp only [e, List.getElem?_cons_succ, List.getElem?_map, h, Option.map_some]
  exact propext ⟨fun x => x.2, fun x => ⟨by lia, x⟩⟩
theorem wIsTup_op {o : Op} {H : AH} {Q : V → AH → Prop} : wIsTup [o.v, .ty "tuple"] H Q = Q (.bool true) H := by unfold wIsTup; simp [Op.v]
theorem wIsTup_num {i : Int} {H : AH} {Q : V → AH → Prop} : wIsTup [.int i, .ty "tuple"] H Q = Q (.bool false) H := by dsimp only [wIsTup]; simp
theorem it_op {o : Op} {H : AH} {Q : V → AH → Prop} : wIsTup [(Pt.op o).v, .ty "tuple"] H Q = Q (.bool true) H := wIsTup_op
theorem zG5 {i : Int} {H : AH} {Q : V → AH → Prop} : wIsTup [(Pt.num i).v, .ty "tuple"] H Q = Q (.bool false) H := wIsTup_num
noncomputable def shT : Ls → Wp Bool := zB4 (zC3 (zB1 3) (zD3 wLen (zA4 (zB1 1) zB5)) (wInt fun i j => V.bool (decide (i < j))))
noncomputable def shB : Ls → Wp Fl :=
    (zB3 (zG7 (zC3 (zB1 1) (zB1 3) zD5) 4)
      (zB3
        (zG3
          (wAndB (zB4 (zD3 wIsTup (zA4 (zB1 4) (zA4 (zA5 (V.ty "tuple")) zB5))))
            (wAndB
              (wOrB (zB4 (zC3 (zC3 (zB1 4) (zA5 (V.int 0)) zD5) (zA5 (V.str (Str.ofString "t"))) wEq))
                (wOrB (zB4 (zC3 (zC3 (zB1 4) (zA5 (V.int 0)) zD5) (zA5 (V.str (Str.ofString "a"))) wEq))
                  (wTrue false)))
              (wTrue true)))
          (zB3 (zG7 (zC3 (zB1 2) (zB1 3) zD5) 5)
            (zB3
              (zG3
                (wOrB (wNotB (zB4 (zD3 wIsTup (zA4 (zB1 5) (zA4 (zA5 (V.ty "tuple")) zB5)))))
                  (wOrB (zB4 (zC3 (zC3 (zB1 5) (zA5 (V.int 0)) zD5) (zA5 (V.str (Str.ofString "x"))) wNe))
                    (wTrue false)))
                (zB3 (wRet (zA5 (V.bool false))) zB6) zB6)
              zB6))
          (zB3
            (zG3 (zB4 (zC3 (zB1 4) (zC3 (zB1 2) (zB1 3) zD5) wNe)) (zB3 (wRet (zA5 (V.bool false))) zB6)
              zB6)
            zB6))
        (zB3 (wAug 3 (zA5 (V.int 1))) zB6)))
theorem shape_loop {s : V} {r p : Row} {H : AH} (ok : r.ok) (ok' : p.ok) (hl : r.ps.length = p.ps.length) : ∀ (as bs : List Pt) (i : Nat) (o4 o5 : Option V) (K : Fl → AH → Prop), r.ps.drop i = as → p.ps.drop i = bs → i + as.length = r.ps.length →
    (∀ l', (as.zip bs).all (fun x => samePart x.1 x.2) = true → K (.next l') H) → ((as.zip bs).all (fun x => samePart x.1 x.2) = false → K (.ret (.bool false)) H) →
    wWhileN shT shB (as.length + 1) [some s, some r.v, some p.v, some (.int (i + 1)), o4, o5] H K := by
  intro as
  have n1 := ok.few
  induction as with
  | nil =>
    intro bs i o4 o5 K e1 e2 e3 k1 k2
    dsimp only [wWhileN, shT]
    simp! only [↓wLen_row]
    refine ⟨by lia, ?_⟩
    have : ¬ ((i : Int) + 1 < ((r.ps.length + 1 : Nat) : Int)) := by simp at e3; lia
    simp only [this, decide_false]
    exact k1 _ (by simp)
  | cons a as ih =>
    intro bs i o4 o5 K e1 e2 e3 k1 k2
    have hi : i < r.ps.length := by simp at e3; lia
    obtain ⟨b, bs', rfl⟩ : ∃ b bs', bs = b :: bs' := by
      cases bs with
      | nil => have := congrArg List.length e2; simp at this; lia
      | cons b bs' => exact ⟨b, bs', rfl⟩
    have ha : r.ps[i]? = some a := by rw [← List.head?_drop, e1]; rfl
    have hb : p.ps[i]? = some b := by rw [← List.head?_drop, e2]; rfl
    have e1' : r.ps.drop (i + 1) = as := by rw [← List.tail_drop, e1]; rfl
    have e2' : p.ps.drop (i + 1) = bs' := by rw [← List.tail_drop, e2]; rfl
    have go : ∀ o4 o5, samePart a b = true → wWhileN shT shB (as.length + 1) [some s, some r.v, some p.v, some (.int (i + 1 + 1)), o4, o5] H K := fun o4 o5 h => by
      have := ih bs' (i + 1) o4 o5 K e1' e2' (by simp at e3; lia) (fun l' h' => k1 l' (by simp [h, h'])) (fun h' => k2 (by simp [h, h']))
      simpa using this
    have no : samePart a b = false → K (.ret (.bool false)) H := fun h => k2 (by simp [h])
    dsimp only [wWhileN, shT]
    simp! only [↓wLen_row]
    refine ⟨by lia, ?_⟩
    have : ((i : Int) + 1 < ((r.ps.length + 1 : Nat) : Int)) := by lia
    simp only [this, decide_true]
    unfold shB
    have sb : ∀ {Q : V → AH → Prop}, zD5 p.v (.int (i + 1)) H Q = Q b.v H := wSub_rowi hb (by lia)
    simp! only [↓wSub_rowi ha (show i < 100 by lia)]
    cases a with
    | num x =>
      dsimp! only [↓sb, ↓it_op, ↓zG5, ↓wNe_pt]
      cases h : ptEq (.num x) b with
      | true =>
        exact go _ _ (by cases b <;> exact h)
      | false =>
        exact no (by cases b <;> exact h)
    | op o =>
      cases o with
      | t n =>
        dsimp! only [↓sb, ↓it_op, ↓zG5]
        cases b with
        | num j =>
          dsimp! only [↓sb, ↓it_op, ↓zG5]
          exact no rfl
        | op q =>
          dsimp! only [↓sb, ↓it_op, ↓zG5]
          cases q <;> dsimp! only [↓sb, ↓it_op, ↓zG5] <;> first | exact no rfl | exact go _ _ rfl
      | a n =>
        dsimp! only [↓sb, ↓it_op, ↓zG5]
        cases b with
        | num j =>
          dsimp! only [↓sb, ↓it_op, ↓zG5]
          exact no rfl
        | op q =>
          dsimp! only [↓sb, ↓it_op, ↓zG5]
          cases q <;> dsimp! only [↓sb, ↓it_op, ↓zG5] <;> first | exact no rfl | exact go _ _ rfl
      | y n =>
        dsimp! only [↓sb, ↓it_op, ↓zG5, ↓wNe_pt]
        have e : samePart (.op (.y n)) b = ptEq (.op (.y n)) b := by cases b <;> rfl
        cases h : ptEq (.op (.y n)) b with
        | true =>
          exact go _ _ (by rw [e]; exact h)
        | false =>
          exact no (by rw [e]; exact h)
      | x n =>
        dsimp! only [↓sb, ↓it_op, ↓zG5, ↓wNe_pt]
        have e : samePart (.op (.x n)) b = ptEq (.op (.x n)) b := by cases b <;> rfl
        cases h : ptEq (.op (.x n)) b with
        | true =>
          exact go _ _ (by rw [e]; exact h)
        | false =>
          exact no (by rw [e]; exact h)
inductive Sp366 (xs : List V) (H : AH) (Q : V → AH → Prop) : Prop
  | of : ∀ s r p, (xs = [s, Row.v r, Row.v p]) → (Row.ok r) → (Row.ok p) → (Q (.bool (zJ4 r p)) H) → Sp366 xs H Q
noncomputable abbrev sp366 : List V → Wp V := Sp366
variable {c : Cx} (Fn : Fns c.K)
include Fn
theorem rf366 : RF c 1 366 sp366 := by
  have hnd : ((["self", "instruction", "real"] : List Str) ++ (["at", "part", "other"] : List Str)).Nodup := by decide
  refine rf_of (ps := (["self", "instruction", "real"] : List Str)) (rest := (["at", "part", "other"] : List Str)) Fn.f366 (zA1 (zE5 (zH4 (zH7 (zC4 (zH2 _ rb_len (zA2 (zA3 1) zA7)) (zH2 _ rb_len (zA2 (zA3 2) zA7)) rv_ne) (zH7 (zC4 (zC2 (zA3 1) zB2 zC1) (zC2 (zA3 2) zB2 zC1) rv_ne) rts_nilO))) (zA1 (zD4 re_bool) zA6) zA6) (zA1 (zD6 3 zB2) (zA1 (rs_while (zC4 (zA3 3) (zH2 _ rb_len (zA2 (zA3 1) zA7)) rv_lt) (zA1 (zD6 4 (zC2 (zA3 1) (zA3 3) zC1)) (zA1 (zE5 (zH4 (rts_and (rt_of (zH2 _ rb_isi (zA2 (zA3 4) (zA2 (re_ty "tuple") zA7)))) (rts_and (zH4 (zH7 (zC4 (zC2 (zA3 4) zB2 zC1) zC6 zE4) (zH7 (zC4 (zC2 (zA3 4) zB2 zC1) zC6 zE4) rts_nilO))) rts_nilA))) (zA1 (zD6 5 (zC2 (zA3 2) (zA3 3) zC1)) (zA1 (zE5 (zH4 (zH7 (rt_not (rt_of (zH2 _ rb_isi (zA2 (zA3 5) (zA2 (re_ty "tuple") zA7))))) (zH7 (zC4 (zC2 (zA3 5) zB2 zC1) zC6 rv_ne) rts_nilO))) (zA1 (zD4 re_bool) zA6) zA6) zA6)) (zA1 (zE5 (zC4 (zA3 4) (zC2 (zA3 2) (zA3 3) zC1) rv_ne) (zA1 (zD4 re_bool) zA6) zA6) zA6)) (zA1 (rs_aug 3 zB2) zA6)))) (zA1 (zD4 re_bool) zA6)))) ?_ (fun pm cd => len3 (fun _ _ _ => by rfl))
  rintro xs H Q wf ⟨s, r, p, rfl, ok, ok', q⟩
  refine ⟨rfl, ?_⟩
  show wBody _ [some _, some _, some _, none, none, none] _ _
  have n1 := ok.few
  have n2 := ok'.few
  by_cases hl : r.ps.length = p.ps.length
  · have hl' : ((r.ps.length + 1 : Nat) : Int) = ((p.ps.length + 1 : Nat) : Int) := by rw [hl]
    by_cases hn : r.nm = p.nm
    · simp! only [↓wLen_row, ↓ne_f hl', ↓wSub_row0, ↓nes_f ok.nm ok'.nm hn]
      refine ⟨by lia, by lia, ?_⟩
      refine ⟨r.ps.length + 1, ?_⟩
      refine shape_loop ok ok' hl r.ps p.ps 0 none none _ rfl rfl (by lia) (fun l' h => ?_) fun h => ?_
      · exact zB7 wf (by simpa [zJ4, hl, hn, h] using q)
      · exact zB7 wf (by simpa [zJ4, hl, hn, h] using q)
    · simp! only [↓wLen_row, ↓ne_f hl', ↓wSub_row0, ↓nes_t ok.nm ok'.nm hn]
      exact ⟨by lia, by lia, zB7 wf (by simpa [zJ4, hn] using q)⟩
  · have hl' : ((r.ps.length + 1 : Nat) : Int) ≠ ((p.ps.length + 1 : Nat) : Int) := by lia
    simp! only [↓wLen_row, ↓ne_t hl']
    exact ⟨by lia, by lia, zB7 wf (by simpa [zJ4, hl] using q)⟩
end
section
noncomputable def twice (r : Row) : Bool := match r.ps with | [a, b] => ptEq a b | _ => false
inductive Sp408 (xs : List V) (H : AH) (Q : V → AH → Prop) : Prop
  | of : ∀ r, (xs = [Row.v r]) → (Row.ok r) → (Q (.bool (twice r)) H) → Sp408 xs H Q
noncomputable abbrev sp408 : List V → Wp V := Sp408
noncomputable def Le (H H' : AH) : Prop := ∀ a o, H a = some o → H' a = some o
theorem Le.refl (H : AH) : Le H H := fun _ _ e => e
theorem Le.trans {H H' H'' : AH} (x : Le H H') (y : Le H' H'') : Le H H'' := fun a o e => y a o (x a o e)
theorem Le.set {H H' : AH} (x : Le H H') {n : Addr} {o : AO} (hn : H n = none) : Le H (H'.set n o) := fun a p e => by
  rw [AH.set_ne]
  · exact x a p e
  · intro z; rw [z, hn] at e; injection e
theorem Le.sub {H H' : AH} (x : Le H H') (wf : WF H) : Sub H H' := ⟨x, wf⟩
theorem ret_le {H H' : AH} {Q : V → AH → Prop} {x : V} (l : Le H H') (wf : WF H) (q : Q x H) : ∃ H'', Sub H'' H' ∧ Q x H'' := ⟨H, l.sub wf, q⟩
theorem Le.none {H H' : AH} (x : Le H H') {n : Addr} (hn : H' n = none) : H n = none := by
  cases q : H n with
  | none => rfl
  | some o => rw [x n o q] at hn; injection hn
theorem AH.ne_of {H : AH} {a n : Addr} {o : AO} (h : H a = some o) (hn : H n = none) : a ≠ n := fun e => by simp only [e, hn] at h; injection h
theorem IsD.le {H H' : AH} (l : Le H H') {a f N} (h : IsD H a f N) : IsD H' a f N := h.keep fun o e => l a o e
theorem RepC.le {H H' : AH} (l : Le H H') {a d a1 a2 a3 a4 S N} (R : RepC H a d a1 a2 a3 a4 S N) : RepC H' a d a1 a2 a3 a4 S N :=
  ⟨l _ _ R.at', R.nd, R.vo.le l, R.he.le l, R.inc.le l, R.out.le l⟩
theorem Rep.le {H H' : AH} (l : Le H H') {a S N} (R : Rep H a S N) : Rep H' a S N := by
  obtain ⟨d, a1, a2, a3, a4, r⟩ := R
  exact ⟨d, a1, a2, a3, a4, r.le l⟩
theorem wEq_pt {a b : Pt} {H : AH} {Q : V → AH → Prop} : wEq a.v b.v H Q = Q (.bool (ptEq a b)) H := by
  cases a with
  | op o =>
    cases b with
    | op p => exact wEq_op
    | num j => unfold wEq; simp [Pt.v, Op.v, asI, asT, okC, okN, okS, okI, Op.tag_ok, PyData.eqv, pt_1, pt_2]
  | num i =>
    cases b with
    | op p => unfold wEq; simp [Pt.v, Op.v, asI, asT, okC, okN, okS, okI, Op.tag_ok, PyData.eqv, pt_1, pt_2]
    | num j => exact wEq_int
theorem wh_succ {t : Ls → Wp Bool} {b : Ls → Wp Fl} {n : Nat} {l : Ls} {H : AH} {Q : Fl → AH → Prop} : wWhileN t b (n + 1) l H Q = t l H (kW1 b (wWhileN t b n) l Q) := rfl
theorem le_t {i j : Int} (h : i ≤ j) {H : AH} {Q : V → AH → Prop} : wInt (fun i j => V.bool (decide (i ≤ j))) (.int i) (.int j) H Q = Q (.bool true) H := by dsimp only [wInt]; simp only [h, decide_true]
theorem le_f {i j : Int} (h : ¬ i ≤ j) {H : AH} {Q : V → AH → Prop} : wInt (fun i j => V.bool (decide (i ≤ j))) (.int i) (.int j) H Q = Q (.bool false) H := by dsimp only [wInt]; simp only [h, decide_false]
theorem gt_t {i j : Int} (h : j < i) {H : AH} {Q : V → AH → Prop} : wInt (fun i j => V.bool (decide (j < i))) (.int i) (.int j) H Q = Q (.bool true) H := by dsimp only [wInt]; simp only [h, decide_true]
theorem gt_f {i j : Int} (h : ¬ j < i) {H : AH} {Q : V → AH → Prop} : wInt (fun i j => V.bool (decide (j < i))) (.int i) (.int j) H Q = Q (.bool false) H := by dsimp only [wInt]; simp only [h, decide_false]
theorem sub_list {H : AH} {a : Addr} {xs : List V} {i : Nat} {X : V} (h : H a = some (.list xs)) (hx : xs[i]? = some X) (hi : i < 1000000) {Q : V → AH → Prop} : zD5 (.ref a) (.int (i : Int)) H Q = Q X H := by
  dsimp only [zD5]
  simp only [h, Int.toNat_natCast, hx]
  exact propext ⟨fun x => x.2, fun x => ⟨by lia, x⟩⟩
theorem sub_pair0 {x y : V} {H : AH} {Q : V → AH → Prop} : zD5 (.tup [x, y]) (.int 0) H Q = Q x H := by dsimp only [zD5]; simp
theorem sub_pair1 {x y : V} {H : AH} {Q : V → AH → Prop} : zD5 (.tup [x, y]) (.int 1) H Q = Q y H := by dsimp only [zD5]; simp
theorem set_pair {i j : Nat} {x y : V} {l : Ls} {H : AH} {Q : Ls → AH → Prop} : wSet2 i j (.tup [x, y]) l H Q = Q ((l.set i (some x)).set j (some y)) H := rfl
theorem len_list {H : AH} {a : Addr} {xs : List V} (h : H a = some (.list xs)) (hl : xs.length ≤ 1000000) {Q : V → AH → Prop} : wLen [.ref a] H Q = Q (.int xs.length) H := by
  dsimp only [wLen]; simp only [h]
  exact propext ⟨fun x => x.2, fun x => ⟨hl, x⟩⟩
theorem zH3 {H : AH} {a : Addr} {xs : List V} {x : V} (h : H a = some (.list xs)) (hl : xs.length ≤ 1000000) {Q : V → AH → Prop} : zD1 [.ref a, x] H Q = Q .none (H.set a (.list (xs ++ [x]))) := by
  dsimp only [zD1]; simp only [h]
  exact propext ⟨fun x => x.2, fun x => ⟨hl, x⟩⟩
theorem ok_list {H : AH} {a : Addr} {xs : List V} (h : H a = some (.list xs)) : zE1 H (.ref a) = True := by
  dsimp only [zE1]; simp only [h]
theorem ops_ok (n : Nat) : ∀ ws : List Op, okVs (n + 1) (ws.map Op.v) = true
  | [] => rfl
  | o :: ws => by simp [okC, Op.v, okT, okN, okS, okI, Op.tag_ok, ops_ok n ws]
theorem ops_any (q : Op) : ∀ ws : List Op, ((toPs (ws.map Op.v)).any fun y => PyData.eqv y (toP q.v)) = decide (q ∈ ws)
  | [] => by simp [tpN]
  | o :: ws => by
    simp only [List.map_cons, tpC, List.any_cons, op_eqv, ops_any q ws]
    by_cases e : o = q
    · simp [e]
    · have : ¬ q = o := fun z => e z.symm
      simp [e, this]
theorem in_ops {H : AH} {a : Addr} {ws : List Op} {q : Op} (h : H a = some (.list (ws.map Op.v))) {Q : V → AH → Prop} : wInB id q.v (.ref a) H Q = Q (.bool (decide (q ∈ ws))) H := by
  have e : wInB id q.v (.ref a) H Q = ((okV 5 q.v = true ∧ okVs 5 (ws.map Op.v) = true) ∧ Q (.bool (id ((toPs (ws.map Op.v)).any fun y => PyData.eqv y (toP q.v)))) H) := by
    show (match H a with | some (.list xs) => (okV 5 q.v = true ∧ okVs 5 xs = true) ∧ Q (.bool (id ((toPs xs).any fun y => PyData.eqv y (toP q.v)))) H | _ => False) = _
    rw [h]
  simp only [e, ops_any, ops_ok 4]
  have : okV 5 q.v = true := by simp [Op.v, okT, okC, okN, okS, okI, Op.tag_ok]
  simp [this]
noncomputable def roleV (p : Int × Op) : V := .tup [.int p.1, p.2.v]
theorem rolesV_eq (r : Row) : rolesV r = (roles r).map roleV := rfl
theorem sub_role1 {p : Int × Op} {H : AH} {Q : V → AH → Prop} : zD5 (roleV p) (.int 1) H Q = Q p.2.v H := sub_pair1
theorem set_role {i j : Nat} {p : Int × Op} {l : Ls} {H : AH} {Q : Ls → AH → Prop} : wSet2 i j (roleV p) l H Q = Q ((l.set i (some (.int p.1))).set j (some p.2.v)) H := rfl
theorem roles_len (r : Row) : (roles r).length ≤ 2 := by
  have key : ∀ (c : Prop) [Decidable c] (a b : List (Int × Nat)), a.length ≤ 2 → b.length ≤ 2 → (if c then a else b).length ≤ 2 := fun c _ a b ha hb => by by_cases h : c <;> simp only [h, if_true, if_false, ha, hb]
  dsimp only [roles, rspec]
  rw [List.length_map]
  repeat' apply key
  all_goals decide
noncomputable def mloop (S : Ck) (r : Row) : List (Int × Op) → List (Int × Op) → List Op → Option Bool
  | p :: ps, q :: qs, w =>
    if p.1 = 2 then
      if sameWrite p.2 q.2 = false then some false
      else match q.2 with
        | .x n => if .x n ∈ w then some (twice r) else mloop S r ps qs (w ++ [.x n])
        | _ => mloop S r ps qs w
    else if sameRead S p.2 q.2 = false then some false else mloop S r ps qs w
  | _, _, _ => none
noncomputable def matchesC (S : Ck) (r p : Row) : Bool :=
  if zJ4 r p then (mloop S r (roles r) (roles p) []).getD (stand S r) else false
inductive Sp373 (xs : List V) (H : AH) (Q : V → AH → Prop) : Prop
  | of : ∀ a S N r p, (xs = [.ref a, Row.v r, Row.v p]) → (Row.ok r) → (Row.ok p) → (Rep H a S N) → (Q (.bool (matchesC S r p)) H) → Sp373 xs H Q
noncomputable abbrev sp373 : List V → Wp V := Sp373
noncomputable def lt373_1 : Ls → Wp Bool := (zB4 (zC3 (zB1 6) (zD3 wLen (zA4 (zB1 4) zB5)) (wInt fun i j => V.bool (decide (i < j)))))
noncomputable def lb373_1 : Ls → Wp Fl := (zB3 (wAsgT (zC3 (zB1 4) (zB1 6) zD5) (wSet2 7 8)) (zB3 (zG7 (zC3 (zC3 (zB1 5) (zB1 6) zD5) (zA5 (V.int 1)) zD5) 9) (zB3 (zG3 (wAndB (zB4 (zC3 (zB1 7) (zA5 (V.int 2)) wNe)) (wAndB (wNotB (zB4 (wMeth 397 (zB1 0) sp338 (zA4 (zB1 8) (zA4 (zB1 9) zB5))))) (wTrue true))) (zB3 (wRet (zA5 (V.bool false))) zB6) zB6) (zB3 (zG3 (wAndB (zB4 (zC3 (zB1 7) (zA5 (V.int 2)) wEq)) (wAndB (wNotB (zB4 (wMeth 397 (zB1 0) sp345 (zA4 (zB1 8) (zA4 (zB1 9) zB5))))) (wTrue true))) (zB3 (wRet (zA5 (V.bool false))) zB6) zB6) (zB3 (zG3 (wAndB (zB4 (zC3 (zB1 7) (zA5 (V.int 2)) wEq)) (wAndB (zB4 (zC3 (zC3 (zB1 9) (zA5 (V.int 0)) zD5) (zA5 (V.str (Str.ofString "x"))) wEq)) (wTrue true))) (zB3 (zG3 (zB4 (zC3 (zB1 9) (zB1 3) (wInB id))) (zB3 (wRet (zD3 sp408 (zA4 (zB1 1) zB5))) zB6) zB6) (zB3 (zG1 (zD2 zE1 (zB1 3) zD1 (zA4 (zB1 9) zB5))) zB6)) zB6) (zB3 (wAug 6 (zA5 (V.int 1))) zB6))))))
noncomputable def wb373 : Ls → Wp Fl := (zB3 (zG3 (wNotB (zB4 (wMeth 397 (zB1 0) sp366 (zA4 (zB1 1) (zA4 (zB1 2) zB5))))) (zB3 (wRet (zA5 (V.bool false))) zB6) zB6) (zB3 (zG7 (zF5 zB5) 3) (zB3 (zG7 (zD3 sp186 (zA4 (zB1 1) zB5)) 4) (zB3 (zG7 (zD3 sp186 (zA4 (zB1 2) zB5)) 5) (zB3 (zG7 (zA5 (V.int 0)) 6) (zB3 (wWhile lt373_1 lb373_1) (zB3 (wRet (wMeth 397 (zB1 0) sp380 (zA4 (zB1 1) zB5))) zB6)))))))
theorem lt373_1_ap {l : Ls} {H : AH} {Q : Bool → AH → Prop} : lt373_1 l H Q = (zB4 (zC3 (zB1 6) (zD3 wLen (zA4 (zB1 4) zB5)) (wInt fun i j => V.bool (decide (i < j))))) l H Q := rfl
theorem lb373_1_ap {l : Ls} {H : AH} {Q : Fl → AH → Prop} : lb373_1 l H Q = (zB3 (wAsgT (zC3 (zB1 4) (zB1 6) zD5) (wSet2 7 8)) (zB3 (zG7 (zC3 (zC3 (zB1 5) (zB1 6) zD5) (zA5 (V.int 1)) zD5) 9) (zB3 (zG3 (wAndB (zB4 (zC3 (zB1 7) (zA5 (V.int 2)) wNe)) (wAndB (wNotB (zB4 (wMeth 397 (zB1 0) sp338 (zA4 (zB1 8) (zA4 (zB1 9) zB5))))) (wTrue true))) (zB3 (wRet (zA5 (V.bool false))) zB6) zB6) (zB3 (zG3 (wAndB (zB4 (zC3 (zB1 7) (zA5 (V.int 2)) wEq)) (wAndB (wNotB (zB4 (wMeth 397 (zB1 0) sp345 (zA4 (zB1 8) (zA4 (zB1 9) zB5))))) (wTrue true))) (zB3 (wRet (zA5 (V.bool false))) zB6) zB6) (zB3 (zG3 (wAndB (zB4 (zC3 (zB1 7) (zA5 (V.int 2)) wEq)) (wAndB (zB4 (zC3 (zC3 (zB1 9) (zA5 (V.int 0)) zD5) (zA5 (V.str (Str.ofString "x"))) wEq)) (wTrue true))) (zB3 (zG3 (zB4 (zC3 (zB1 9) (zB1 3) (wInB id))) (zB3 (wRet (zD3 sp408 (zA4 (zB1 1) zB5))) zB6) zB6) (zB3 (zG1 (zD2 zE1 (zB1 3) zD1 (zA4 (zB1 9) zB5))) zB6)) zB6) (zB3 (wAug 6 (zA5 (V.int 1))) zB6)))))) l H Q := rfl
theorem wb373_ap {l : Ls} {H : AH} {Q : Fl → AH → Prop} : wb373 l H Q = (zB3 (zG3 (wNotB (zB4 (wMeth 397 (zB1 0) sp366 (zA4 (zB1 1) (zA4 (zB1 2) zB5))))) (zB3 (wRet (zA5 (V.bool false))) zB6) zB6) (zB3 (zG7 (zF5 zB5) 3) (zB3 (zG7 (zD3 sp186 (zA4 (zB1 1) zB5)) 4) (zB3 (zG7 (zD3 sp186 (zA4 (zB1 2) zB5)) 5) (zB3 (zG7 (zA5 (V.int 0)) 6) (zB3 (wWhile lt373_1 lb373_1) (zB3 (wRet (wMeth 397 (zB1 0) sp380 (zA4 (zB1 1) zB5))) zB6))))))) l H Q := rfl
theorem m_loop {H0 : AH} {a n0 n1 n2 : Addr} {S : Ck} {N : Nat} {r : Row} {rest : V} (ok : r.ok) {ps0 qs0 : List (Int × Op)} (h0 : H0 n0 = none) (d1 : n1 ≠ n0) (d2 : n2 ≠ n0) (R0 : Rep H0 a S N) (hs : ps0.length ≤ 2) (K : Fl → AH → Prop) :
    ∀ (ps qs : List (Int × Op)) (i : Nat) (ws : List Op) (H : AH) (x7 x8 x9 : Option V), ps0.drop i = ps → qs0.drop i = qs → ps.length = qs.length → i + ps.length = ps0.length → ws.length ≤ i →
    Le H0 H → H n0 = some (.list (ws.map Op.v)) → H n1 = some (.list (ps0.map roleV)) → H n2 = some (.list (qs0.map roleV)) →
    (mloop S r ps qs ws = none → ∀ H' tl, Le H0 H' → K (.next (some (.ref a) :: some r.v :: tl)) H') → (∀ b, mloop S r ps qs ws = some b → ∀ H', Le H0 H' → K (.ret (.bool b)) H') →
    wWhileN lt373_1 lb373_1 (ps.length + 1) [some (.ref a), some r.v, some rest, some (.ref n0), some (.ref n1), some (.ref n2), some (.int i), x7, x8, x9] H K := by
  intro ps
  induction ps with
  | nil =>
    intro qs i ws H x7 x8 x9 e1 e2 el ei hw l b0 b1 b2 kN kR
    have : ¬ ((i : Int) < ((ps0.map roleV).length : Int)) := by simp at ei ⊢; lia
    simp only [wh_succ]
    simp! only [↓lt373_1_ap, ↓len_list b1 (by simp; lia), ↓lt_f this]
    cases qs with
    | nil => exact kN rfl _ _ l
    | cons q qs => injection el
  | cons p ps ih =>
    intro qs i ws H x7 x8 x9 e1 e2 el ei hw l b0 b1 b2 kN kR
    cases qs with
    | nil => injection el
    | cons q qs =>
    refine zC5 fun _ hk => ?_
    have hi : i < ps0.length := by simp at ei; lia
    have hp : ps0[i]? = some p := by rw [← List.head?_drop, e1]; rfl
    have hq : qs0[i]? = some q := by rw [← List.head?_drop, e2]; rfl
    have hp' : (ps0.map roleV)[i]? = some (roleV p) := by rw [List.getElem?_map, hp]; rfl
    have hq' : (qs0.map roleV)[i]? = some (roleV q) := by rw [List.getElem?_map, hq]; rfl
    have e1' : ps0.drop (i + 1) = ps := by rw [← List.tail_drop, e1]; rfl
    have e2' : qs0.drop (i + 1) = qs := by rw [← List.tail_drop, e2]; rfl
    have R := R0.le l
    obtain ⟨d, a1, a2, a3, a4, RR⟩ := R
    have go : ∀ (ws' : List Op) (H' : AH), mloop S r (p :: ps) (q :: qs) ws = mloop S r ps qs ws' → ws'.length ≤ i + 1 → Le H0 H' → H' n0 = some (.list (ws'.map Op.v)) → H' n1 = some (.list (ps0.map roleV)) → H' n2 = some (.list (qs0.map roleV)) →
        wWhileN lt373_1 lb373_1 (ps.length + 1) [some (.ref a), some r.v, some rest, some (.ref n0), some (.ref n1), some (.ref n2), some (.int (i + 1)), some (.int p.1), some p.2.v, some q.2.v] H' K := fun ws' H' em hw' l' c0 c1 c2 => by
      have := ih qs (i + 1) ws' H' (some (.int p.1)) (some p.2.v) (some q.2.v) e1' e2' (by simpa using el) (by simp at ei; lia) hw' l' c0 c1 c2 (fun h => kN (by rw [em]; exact h)) (fun b h => kR b (by rw [em]; exact h))
      simpa using this
    have : ((i : Int) < ((ps0.map roleV).length : Int)) := by simp; lia
    refine hk ?_
    simp only [wh_succ]
    simp! only [↓lt373_1_ap, ↓len_list b1 (by simp; lia), ↓lt_t this]
    simp! only [↓lb373_1_ap, ↓sub_list b1 hp' (by lia), ↓sub_list b2 hq' (by lia), ↓sub_role1, ↓set_role]
    by_cases h2 : p.1 = 2
    · simp! only [↓ne_f h2, ↓eq_t h2, ↓m1_ RR.at']
      refine ⟨_, p.2, q.2, rfl, ?_⟩
      cases hw1 : sameWrite p.2 q.2 with
      | false =>
        exact kR false (by simp only [mloop, h2, hw1, if_true]) _ l
      | true =>
        simp! only [Bool.not_true, ↓eq_t h2]
        cases ho : q.2 with
        | x n =>
          simp only [ho] at hw1
          dsimp! only [↓it_op, ↓zG5, ↓in_ops b0]
          by_cases hm : Op.x n ∈ ws
          · simp! only [hm, decide_true]
            refine ⟨r, rfl, ok, ?_⟩
            exact kR _ (by simp only [mloop, h2, ho, hw1, hm, if_true, Bool.true_eq_false, if_false]) _ l
          · have hlen : (ws.map Op.v).length ≤ 1000000 := by simp; lia
            simp! only [hm, decide_false, ↓ok_list b0, ↓zH3 b0 hlen]
            have := go (ws ++ [Op.x n]) (H.set n0 (.list ((ws ++ [Op.x n]).map Op.v))) (by simp only [mloop, h2, ho, hw1, hm, if_true, Bool.true_eq_false, if_false]) (by simp; lia) (l.set h0) (AH.set_self ..) (by rw [AH.set_ne _ _ d1]; exact b1) (by rw [AH.set_ne _ _ d2]; exact b2)
            rw [ho] at this
            simpa using this
        | t n =>
          rw [ho] at hw1
          dsimp! only [↓it_op, ↓zG5]
          have := go ws H (by simp only [mloop, h2, ho, hw1, if_true, Bool.true_eq_false, if_false]) (by lia) l b0 b1 b2
          rw [ho] at this; exact this
        | a n =>
          rw [ho] at hw1
          dsimp! only [↓it_op, ↓zG5]
          have := go ws H (by simp only [mloop, h2, ho, hw1, if_true, Bool.true_eq_false, if_false]) (by lia) l b0 b1 b2
          rw [ho] at this; exact this
        | y n =>
          rw [ho] at hw1
          dsimp! only [↓it_op, ↓zG5]
          have := go ws H (by simp only [mloop, h2, ho, hw1, if_true, Bool.true_eq_false, if_false]) (by lia) l b0 b1 b2
          rw [ho] at this; exact this
    · simp! only [↓ne_t h2, ↓m1_ RR.at']
      refine ⟨a, S, N, p.2, q.2, rfl, ⟨_, _, _, _, _, RR⟩, ?_⟩
      cases hr : sameRead S p.2 q.2 with
      | false =>
        exact kR false (by simp only [mloop, h2, hr, if_true, if_false]) _ l
      | true =>
        simp! only [Bool.not_true, ↓eq_f h2]
        exact go ws H (by simp only [mloop, h2, hr, if_false, Bool.true_eq_false]) (by lia) l b0 b1 b2
section
variable {c : Cx} (Fn : Fns c.K)
include Fn
set_option tactic.hygienic true in
theorem rf408 : RF c 1 408 sp408 := by
  refine rf_of (ps := (["instruction"] : List Str)) (rest := ([] : List Str)) Fn.f408 (zA1 (zD4 (re_bool' (reb_and (re_cmp (zH2 _ rb_len (zA2 (zA3 0) zA7)) zB2 zE4) (reb_one (re_cmp (zC2 (zA3 0) zB2 zC1) (zC2 (zA3 0) zB2 zC1) zE4))))) zA6) ?_ (fun pm cd => len1 (fun _ => by rfl))
  rintro xs H Q wf ⟨r, rfl, ok, q⟩
  refine ⟨rfl, ?_⟩
  show wBody _ [some _] _ _
  have n1 := ok.few
  simp! only [↓wLen_row]
  refine ⟨by lia, ?_⟩
  by_cases h : r.ps.length = 2
  · simp! only [↓eq_t (show ((r.ps.length + 1 : Nat) : Int) = 3 by lia)]
    match hp : r.ps, h with
    | [a, b], _ =>
      have ha : r.ps[0]? = some a := by rw [hp]; rfl
      have hb : r.ps[1]? = some b := by rw [hp]; rfl
      have e1 : ∀ {H Q}, zD5 r.v (.int 1) H Q = Q a.v H := fun {H Q} => wSub_rowi (i := 0) ha (by lia)
      have e2 : ∀ {H Q}, zD5 r.v (.int 2) H Q = Q b.v H := fun {H Q} => wSub_rowi (i := 1) hb (by lia)
      have e3 : ∀ {H Q}, wEq a.v b.v H Q = Q (.bool (ptEq a b)) H := fun {H Q} => wEq_pt
      simp! only [↓e1, ↓e2, ↓e3]
      have : twice r = ptEq a b := by unfold twice; rw [hp]
      exact zB7 wf (by rw [← this]; exact q)
  · simp only [↓eq_f (show ((r.ps.length + 1 : Nat) : Int) ≠ 3 by lia)]
    have : twice r = false := by
      unfold twice; split
      · rename_i hp; rw [hp] at h; exact absurd rfl h
      · rfl
    exact zB7 wf (by rw [← this]; exact q)
theorem rf373 : RF c 3 373 sp373 := by
  have h186 := ((rf186 Fn).mono (by lia : 1 ≤ 2) : RF c 2 186 sp186)
  have h380 := ((rf380 Fn) : RF c 2 380 sp380)
  have h366 := ((rf366 Fn).mono (by lia : 1 ≤ 2) : RF c 2 366 sp366)
  have h338 := ((rf338 Fn).mono (by lia : 1 ≤ 2) : RF c 2 338 sp338)
  have h345 := ((rf345 Fn).mono (by lia : 1 ≤ 2) : RF c 2 345 sp345)
  have h408 := ((rf408 Fn).mono (by lia : 1 ≤ 2) : RF c 2 408 sp408)
  have hnd : ((["self", "instruction", "real"] : List Str) ++ (["written", "pairs", "others", "at", "role", "operand", "other"] : List Str)).Nodup := by decide
  refine rf_of (ps := (["self", "instruction", "real"] : List Str)) (rest := (["written", "pairs", "others", "at", "role", "operand", "other"] : List Str)) Fn.f373 (zA1 (zE5 (rt_not (rt_of (zJ1 (f := 366) 397 (zA3 0) h366 (zA2 (zA3 1) (zA2 (zA3 2) zA7)) _))) (zA1 (zD4 re_bool) zA6) zA6) (zA1 (zD6 3 (zE2 zA7)) (zA1 (zD6 4 (zE6 (f := 186) h186 (zA2 (zA3 1) zA7))) (zA1 (zD6 5 (zE6 (f := 186) h186 (zA2 (zA3 2) zA7))) (zA1 (zD6 6 zB2) (zA1 (rs_while (zC4 (zA3 6) (zH2 _ rb_len (zA2 (zA3 4) zA7)) rv_lt) (zA1 (rs_asgT (zC2 (zA3 4) (zA3 6) zC1) (tg_two 7 8)) (zA1 (zD6 9 (zC2 (zC2 (zA3 5) (zA3 6) zC1) zB2 zC1)) (zA1 (zE5 (zH4 (rts_and (zC4 (zA3 7) (zF6 2) rv_ne) (rts_and (rt_not (rt_of (zJ1 (f := 338) 397 (zA3 0) h338 (zA2 (zA3 8) (zA2 (zA3 9) zA7)) _))) rts_nilA))) (zA1 (zD4 re_bool) zA6) zA6) (zA1 (zE5 (zH4 (rts_and (zC4 (zA3 7) (zF6 2) zE4) (rts_and (rt_not (rt_of (zJ1 (f := 345) 397 (zA3 0) h345 (zA2 (zA3 8) (zA2 (zA3 9) zA7)) _))) rts_nilA))) (zA1 (zD4 re_bool) zA6) zA6) (zA1 (zE5 (zH4 (rts_and (zC4 (zA3 7) (zF6 2) zE4) (rts_and (zC4 (zC2 (zA3 9) zB2 zC1) zC6 zE4) rts_nilA))) (zA1 (zE5 (zC4 (zA3 9) (zA3 3) rv_in) (zA1 (zD4 (zE6 (f := 408) h408 (zA2 (zA3 1) zA7))) zA6) zA6) (zA1 (zG6 (zD7 (zA3 3) zF7 (zA2 (zA3 9) zA7) (gm_list F.slot_list_append) _)) zA6)) zA6) (zA1 (rs_aug 6 zB2) zA6))))))) (zA1 (zD4 (zJ1 (f := 380) 397 (zA3 0) h380 (zA2 (zA3 1) zA7) _)) zA6))))))) ?_ (fun pm cd => len3 (fun _ _ _ => by rfl))
  rintro xs H Q wf ⟨a, S, N, r, p, rfl, ok, ok', RR', q⟩
  refine ⟨rfl, ?_⟩
  show wBody _ [some _, some _, some _, none, none, none, none, none, none, none] _ _
  have RR := RR'
  obtain ⟨d, a1, a2, a3, a4, R⟩ := RR
  show wBody wb373 _ H _
  unfold wb373
  simp! only [↓m1_ R.at']
  refine ⟨_, r, p, rfl, ok, ok', ?_⟩
  cases hsh : zJ4 r p with
  | false =>
    exact zB7 wf (by simpa [matchesC, hsh] using q)
  | true =>
    simp! only [Bool.not_true]
    refine ⟨by lia, fun n0 f0 => ?_⟩
    try simp! only []
    refine ⟨r, rfl, ok, fun n1 f1 => ?_⟩
    refine ⟨p, rfl, ok', fun n2 f2 => ?_⟩
    have g1 := (AH.ne_of (AH.set_self H n0 (.list [])) f1).symm
    have g2' := AH.ne_of (AH.set_self (H.set n0 (.list [])) n1 (.list (rolesV r))) f2
    have f2' : (H.set n0 (.list [])) n2 = none := by rw [AH.set_ne _ _ g2'.symm] at f2; exact f2
    have g2 := (AH.ne_of (AH.set_self H n0 (.list [])) f2').symm
    have f1' : H n1 = none := by rw [AH.set_ne _ _ g1] at f1; exact f1
    have f2'' : H n2 = none := by rw [AH.set_ne _ _ g2] at f2'; exact f2'
    have hnm : r.nm = p.nm := by simp only [zJ4, Bool.and_eq_true, decide_eq_true_eq] at hsh; exact hsh.1.2
    refine ⟨(roles r).length + 1, ?_⟩
    have le : Le H (((H.set n0 (.list [])).set n1 (.list (rolesV r))).set n2 (.list (rolesV p))) := (((Le.refl H).set f0).set f1').set f2''
    refine m_loop ok (rest := p.v) (ps0 := roles r) (qs0 := roles p) f0 g1 g2 RR' (roles_len r) _ (roles r) (roles p) 0 [] _ none none none rfl rfl (by simp [roles, hnm]) (by lia) (by simp) le ?_ ?_ ?_ ?_ ?_
    · rw [AH.set_ne _ _ g2.symm, AH.set_ne _ _ g1.symm]; exact AH.set_self ..
    · rw [AH.set_ne _ _ g2']; exact AH.set_self ..
    · exact AH.set_self ..
    · intro hm H' tl l
      simp! only [↓m1_ (R.le l).at']
      refine ⟨a, S, N, r, rfl, ok.nm, RR'.le l, ?_⟩
      exact ret_le l wf (by simpa [matchesC, hsh, hm] using q)
    · intro b hm H' l
      exact ret_le l wf (by simpa [matchesC, hsh, hm] using q)
end
end
section
theorem n_call : PyData.strOk "call" = true := by kernel_rfl
theorem n_exe : PyData.strOk "execute" = true := by kernel_rfl
noncomputable def advLoop (v : Int) : List (Int × Op) → List (Int × Op) → Ck → Ck
  | p :: ps, q :: qs, S => advLoop v ps qs (if p.1 = 1 then S else writeC S p.2 q.2 v)
  | _, _, S => S
noncomputable abbrev isCall (r : Row) : Prop := r.nm = "call" ∨ r.nm = "execute"
noncomputable def advVal (S : Ck) (r : Row) : Int := if copied S r = 0 then S.nv + 1 else copied S r
noncomputable def advPre (S : Ck) (r : Row) : Ck := if copied S r = 0 then { S with nv := S.nv + 1 } else S
noncomputable def advOut (S : Ck) (r : Row) : Ck := if ends r then { S with out := fun _ => none } else S
noncomputable def advCall (S : Ck) (r : Row) : Ck := if isCall r then { S with he := fun _ => none, vo := fun _ => none, inc := fun _ => none } else S
noncomputable def adv (S : Ck) (r p : Row) : Ck := advCall (advOut (advLoop (advVal S r) (roles r) (roles p) (advPre S r)) r) r
inductive Sp387 (xs : List V) (H : AH) (Q : V → AH → Prop) : Prop
  | of : ∀ a S N r p, (xs = [.ref a, Row.v r, Row.v p]) → (Row.ok r) → (Row.ok p) → (r.nm = p.nm) → (Rep H a S N) → (N ≤ 800000) → (∀ H', Rep H' a (adv S r p) (N + 4) → Evo a H H' → Q .none H') → Sp387 xs H Q
noncomputable abbrev sp387 : List V → Wp V := Sp387
noncomputable def lt387_1 : Ls → Wp Bool := (zB4 (zC3 (zB1 6) (zD3 wLen (zA4 (zB1 4) zB5)) (wInt fun i j => V.bool (decide (i < j)))))
noncomputable def lb387_1 : Ls → Wp Fl := (zB3 (wAsgT (zC3 (zB1 4) (zB1 6) zD5) (wSet2 7 8)) (zB3 (zG3 (zB4 (zC3 (zB1 7) (zA5 (V.int 1)) wNe)) (zB3 (zG1 (wMeth 397 (zB1 0) sp352 (zA4 (zB1 8) (zA4 (zC3 (zC3 (zB1 5) (zB1 6) zD5) (zA5 (V.int 1)) zD5) (zA4 (zB1 3) zB5))))) zB6) zB6) (zB3 (wAug 6 (zA5 (V.int 1))) zB6)))
noncomputable def wb387 : Ls → Wp Fl := (zB3 (zG7 (wMeth 397 (zB1 0) sp359 (zA4 (zB1 1) zB5)) 3) (zB3 (zG3 (zB4 (zC3 (zB1 3) (zA5 (V.int 0)) wEq)) (zB3 (zG7 (wMeth 397 (zB1 0) sp331 zB5) 3) zB6) zB6) (zB3 (zG7 (zD3 sp186 (zA4 (zB1 1) zB5)) 4) (zB3 (zG7 (zD3 sp186 (zA4 (zB1 2) zB5)) 5) (zB3 (zG7 (zA5 (V.int 0)) 6) (zB3 (wWhile lt387_1 lb387_1) (zB3 (zG3 (zB4 (zD3 sp193 (zA4 (zB1 1) zB5))) (zB3 (wAsgA wDict (zB1 0) (Str.ofString "outgoing")) zB6) zB6) (zB3 (zG3 (wOrB (zB4 (zC3 (zC3 (zB1 1) (zA5 (V.int 0)) zD5) (zA5 (V.str (Str.ofString "call"))) wEq)) (wOrB (zB4 (zC3 (zC3 (zB1 1) (zA5 (V.int 0)) zD5) (zA5 (V.str (Str.ofString "execute"))) wEq)) (wTrue false))) (zB3 (wAsgA wDict (zB1 0) (Str.ofString "held")) (zB3 (wAsgA wDict (zB1 0) (Str.ofString "value_of")) (zB3 (wAsgA wDict (zB1 0) (Str.ofString "incoming")) zB6))) zB6) zB6))))))))
theorem lt387_1_ap {l : Ls} {H : AH} {Q : Bool → AH → Prop} : lt387_1 l H Q = (zB4 (zC3 (zB1 6) (zD3 wLen (zA4 (zB1 4) zB5)) (wInt fun i j => V.bool (decide (i < j))))) l H Q := rfl
theorem lb387_1_ap {l : Ls} {H : AH} {Q : Fl → AH → Prop} : lb387_1 l H Q = (zB3 (wAsgT (zC3 (zB1 4) (zB1 6) zD5) (wSet2 7 8)) (zB3 (zG3 (zB4 (zC3 (zB1 7) (zA5 (V.int 1)) wNe)) (zB3 (zG1 (wMeth 397 (zB1 0) sp352 (zA4 (zB1 8) (zA4 (zC3 (zC3 (zB1 5) (zB1 6) zD5) (zA5 (V.int 1)) zD5) (zA4 (zB1 3) zB5))))) zB6) zB6) (zB3 (wAug 6 (zA5 (V.int 1))) zB6))) l H Q := rfl
theorem wb387_ap {l : Ls} {H : AH} {Q : Fl → AH → Prop} : wb387 l H Q = (zB3 (zG7 (wMeth 397 (zB1 0) sp359 (zA4 (zB1 1) zB5)) 3) (zB3 (zG3 (zB4 (zC3 (zB1 3) (zA5 (V.int 0)) wEq)) (zB3 (zG7 (wMeth 397 (zB1 0) sp331 zB5) 3) zB6) zB6) (zB3 (zG7 (zD3 sp186 (zA4 (zB1 1) zB5)) 4) (zB3 (zG7 (zD3 sp186 (zA4 (zB1 2) zB5)) 5) (zB3 (zG7 (zA5 (V.int 0)) 6) (zB3 (wWhile lt387_1 lb387_1) (zB3 (zG3 (zB4 (zD3 sp193 (zA4 (zB1 1) zB5))) (zB3 (wAsgA wDict (zB1 0) (Str.ofString "outgoing")) zB6) zB6) (zB3 (zG3 (wOrB (zB4 (zC3 (zC3 (zB1 1) (zA5 (V.int 0)) zD5) (zA5 (V.str (Str.ofString "call"))) wEq)) (wOrB (zB4 (zC3 (zC3 (zB1 1) (zA5 (V.int 0)) zD5) (zA5 (V.str (Str.ofString "execute"))) wEq)) (wTrue false))) (zB3 (wAsgA wDict (zB1 0) (Str.ofString "held")) (zB3 (wAsgA wDict (zB1 0) (Str.ofString "value_of")) (zB3 (wAsgA wDict (zB1 0) (Str.ofString "incoming")) zB6))) zB6) zB6)))))))) l H Q := rfl
theorem Evo.fresh {H : AH} (wf : WF H) {a C d : Addr} {fs} (ha : H a = some (.inst C d fs)) {n : Addr} {o : AO} (hn : H n = none) (hi : autoParam (∀ C d fs, o ≠ .inst C d fs) auN) : Evo a H (H.set n o) := by
  have na : a ≠ n := AH.ne_of ha hn
  refine ⟨fun b x e _ => ?_, fun b m => .inl ?_, wf.new hn hi⟩
  · rw [AH.set_ne _ _ (AH.ne_of e hn)]; exact e
  · unfold foot at m ⊢; rw [AH.set_ne _ _ na] at m; exact m
theorem Evo.stay {a : Addr} {H H' : AH} (E : Evo a H H') {n : Addr} {o : AO} (hn : H n = some o) (nf : n ∉ foot H a) : H' n = some o ∧ n ∉ foot H' a :=
  ⟨E.keep n o hn nf, fun m => by
    rcases E.new n m with h | h
    · exact nf h
    · rw [h] at hn; cases hn⟩
theorem foot_none {H : AH} {a C d : Addr} {fs} (ha : H a = some (.inst C d fs)) {n : Addr} {o : AO} (hn : H n = none) : foot (H.set n o) a = foot H a := by
  unfold foot; rw [AH.set_ne _ _ (AH.ne_of ha hn)]
theorem RepC.alive {H : AH} (wf : WF H) {a d a1 a2 a3 a4 S N} (R : RepC H a d a1 a2 a3 a4 S N) : ∀ n ∈ Mine.foot H a, H n ≠ none := by
  rw [R.foot]
  intro n hn
  have g : ∀ {b f M}, IsD H b f M → H b ≠ none := fun h => by obtain ⟨o, ho, _⟩ := h.obj; rw [ho]; simp
  simp only [List.mem_cons, List.not_mem_nil, or_false] at hn
  rcases hn with rfl | rfl | rfl | rfl | rfl | rfl
  · rw [R.at']; simp
  · rw [wf _ _ _ _ R.at']; simp
  · exact g R.vo
  · exact g R.he
  · exact g R.inc
  · exact g R.out
theorem RepC.notin {H : AH} (wf : WF H) {a d a1 a2 a3 a4 S N} (R : RepC H a d a1 a2 a3 a4 S N) {n : Addr} (hn : H n = none) : n ∉ Mine.foot H a := fun m => R.alive wf n m hn
theorem RepC.fit {H : AH} (wf : WF H) {a d a1 a2 a3 a4 b1 b2 b3 b4 : Addr} {S S' : Ck} {N : Nat} (R : RepC H a d a1 a2 a3 a4 S N) {n : Addr} (hn : H n = none) {ob : AO} (hob : ob = .inst 397 d (ckF (.int S'.nv) (.ref b1) (.ref b2) (.ref b3) (.ref b4)))
    (hb : ∀ b ∈ [b1, b2, b3, b4], b ∈ [a1, a2, a3, a4] ∨ b = n) : Evo a H ((H.set n (.dictE 0)).set a ob) := by
  have na : a ≠ n := AH.ne_of R.at' hn
  have wf1 : WF (H.set n (.dictE 0)) := wf.new hn
  have at1 : (H.set n (.dictE 0)) a = some (.inst 397 d (ckF (.int S.nv) (.ref a1) (.ref a2) (.ref a3) (.ref a4))) := by rw [AH.set_ne _ _ na]; exact R.at'
  subst hob
  refine ⟨fun b x e nf => ?_, fun b m => ?_, wf1.own at1⟩
  · have ba : b ≠ a := fun z => nf (by simp only [R.foot, z]; simp)
    rw [AH.set_ne _ _ ba, AH.set_ne _ _ (AH.ne_of e hn)]; exact e
  · have ff : Mine.foot ((H.set n (.dictE 0)).set a (.inst 397 d (ckF (.int S'.nv) (.ref b1) (.ref b2) (.ref b3) (.ref b4)))) a = [a, d, b1, b2, b3, b4] := by unfold Mine.foot; rw [AH.set_self]; rfl
    rw [ff] at m
    rw [R.foot]
    have : b = a ∨ b = d ∨ b ∈ [b1, b2, b3, b4] := by simpa using m
    rcases this with h | h | h
    · exact .inl (by simp [h])
    · exact .inl (by simp [h])
    · rcases hb b h with h | h
      · exact .inl (List.mem_cons_of_mem _ (List.mem_cons_of_mem _ h))
      · exact .inr (by rw [h]; exact hn)
theorem IsD.far {H : AH} {a b n : Addr} {ob : AO} {f N} {C dd : Addr} {fs : List (Str × V)} (h : IsD H b f N) (ha : H a = some (.inst C dd fs)) (hn : H n = none) : IsD ((H.set n (.dictE 0)).set a ob) b f N := h.keep fun o e => by
  have ba : b ≠ a := fun z => by
    obtain ⟨o', ho, hi, _⟩ := h.obj
    rw [z, ha] at ho; exact hi _ _ _ (Option.some.inj ho).symm
  rw [AH.set_ne _ _ ba, AH.set_ne _ _ (AH.ne_of e hn)]; exact e
theorem IsD.near {H : AH} {a n : Addr} {ob : AO} {o : AO} (ha : H a = some o) (hn : H n = none) {N : Nat} : IsD ((H.set n (.dictE 0)).set a ob) n (fun _ => none) N :=
  (IsD.empty (ep := 0) (by rw [AH.set_ne _ _ (AH.ne_of ha hn).symm]; exact AH.set_self ..)).mono (Nat.zero_le _)
theorem IsD.neN {H : AH} {b n : Addr} {f N} (h : IsD H b f N) (hn : H n = none) : b ≠ n := fun z => by
  obtain ⟨o', ho, _⟩ := h.obj
  simp only [z, hn] at ho; injection ho
section
variable {H : AH} {a d a1 a2 a3 a4 : Addr} {S : Ck} {N : Nat}
theorem RepC.newOut (wf : WF H) (R : RepC H a d a1 a2 a3 a4 S N) {n : Addr} (hn : H n = none) : RepC ((H.set n (.dictE 0)).set a (.inst 397 d (ckF (.int S.nv) (.ref a1) (.ref a2) (.ref a3) (.ref n)))) a d a1 a2 a3 n { S with out := fun _ => none } N ∧
    Evo a H ((H.set n (.dictE 0)).set a (.inst 397 d (ckF (.int S.nv) (.ref a1) (.ref a2) (.ref a3) (.ref n)))) := by
  refine zC5 fun _ hk => ?_
  obtain ⟨n1, n2, n3, n4, n5, n6⟩ := R.nd
  refine hk ?_
  refine ⟨⟨AH.set_self .., ⟨n1, n2, R.vo.neN hn, n4, R.he.neN hn, R.inc.neN hn⟩, R.vo.far R.at' hn, R.he.far R.at' hn, R.inc.far R.at' hn, IsD.near R.at' hn⟩, R.fit wf hn (S' := S) rfl ?_⟩
  intro b hb; simp only [List.mem_cons, List.not_mem_nil, or_false] at hb; rcases hb with h | h | h | h <;> simp [h]
theorem RepC.newHe (wf : WF H) (R : RepC H a d a1 a2 a3 a4 S N) {n : Addr} (hn : H n = none) : RepC ((H.set n (.dictE 0)).set a (.inst 397 d (ckF (.int S.nv) (.ref a1) (.ref n) (.ref a3) (.ref a4)))) a d a1 n a3 a4 { S with he := fun _ => none } N ∧
    Evo a H ((H.set n (.dictE 0)).set a (.inst 397 d (ckF (.int S.nv) (.ref a1) (.ref n) (.ref a3) (.ref a4)))) := by
  refine zC5 fun _ hk => ?_
  obtain ⟨n1, n2, n3, n4, n5, n6⟩ := R.nd
  refine hk ?_
  refine ⟨⟨AH.set_self .., ⟨R.vo.neN hn, n2, n3, (R.inc.neN hn).symm, (R.out.neN hn).symm, n6⟩, R.vo.far R.at' hn, IsD.near R.at' hn, R.inc.far R.at' hn, R.out.far R.at' hn⟩, R.fit wf hn (S' := S) rfl ?_⟩
  intro b hb; simp only [List.mem_cons, List.not_mem_nil, or_false] at hb; rcases hb with h | h | h | h <;> simp [h]
theorem RepC.newVo (wf : WF H) (R : RepC H a d a1 a2 a3 a4 S N) {n : Addr} (hn : H n = none) : RepC ((H.set n (.dictE 0)).set a (.inst 397 d (ckF (.int S.nv) (.ref n) (.ref a2) (.ref a3) (.ref a4)))) a d n a2 a3 a4 { S with vo := fun _ => none } N ∧
    Evo a H ((H.set n (.dictE 0)).set a (.inst 397 d (ckF (.int S.nv) (.ref n) (.ref a2) (.ref a3) (.ref a4)))) := by
  refine zC5 fun _ hk => ?_
  obtain ⟨n1, n2, n3, n4, n5, n6⟩ := R.nd
  refine hk ?_
  refine ⟨⟨AH.set_self .., ⟨(R.he.neN hn).symm, (R.inc.neN hn).symm, (R.out.neN hn).symm, n4, n5, n6⟩, IsD.near R.at' hn, R.he.far R.at' hn, R.inc.far R.at' hn, R.out.far R.at' hn⟩, R.fit wf hn (S' := S) rfl ?_⟩
  intro b hb; simp only [List.mem_cons, List.not_mem_nil, or_false] at hb; rcases hb with h | h | h | h <;> simp [h]
theorem RepC.newInc (wf : WF H) (R : RepC H a d a1 a2 a3 a4 S N) {n : Addr} (hn : H n = none) : RepC ((H.set n (.dictE 0)).set a (.inst 397 d (ckF (.int S.nv) (.ref a1) (.ref a2) (.ref n) (.ref a4)))) a d a1 a2 n a4 { S with inc := fun _ => none } N ∧
    Evo a H ((H.set n (.dictE 0)).set a (.inst 397 d (ckF (.int S.nv) (.ref a1) (.ref a2) (.ref n) (.ref a4)))) := by
  refine zC5 fun _ hk => ?_
  obtain ⟨n1, n2, n3, n4, n5, n6⟩ := R.nd
  refine hk ?_
  refine ⟨⟨AH.set_self .., ⟨n1, R.vo.neN hn, n3, R.he.neN hn, n5, (R.out.neN hn).symm⟩, R.vo.far R.at' hn, R.he.far R.at' hn, IsD.near R.at' hn, R.out.far R.at' hn⟩, R.fit wf hn (S' := S) rfl ?_⟩
  intro b hb; simp only [List.mem_cons, List.not_mem_nil, or_false] at hb; rcases hb with h | h | h | h <;> simp [h]
theorem RepC.pOut (R : RepC H a d a1 a2 a3 a4 S N) {n : Addr} (hn : H n = none) {Q : Unit → AH → Prop} : wPutA "outgoing" (.ref a) (.ref n) (H.set n (.dictE 0)) Q = Q () ((H.set n (.dictE 0)).set a (.inst 397 d (ckF (.int S.nv) (.ref a1) (.ref a2) (.ref a3) (.ref n)))) := by
  rw [put_at ((AH.set_ne _ _ (AH.ne_of R.at' hn)).trans R.at') hA_out, ckP_out]
theorem RepC.pHe (R : RepC H a d a1 a2 a3 a4 S N) {n : Addr} (hn : H n = none) {Q : Unit → AH → Prop} : wPutA "held" (.ref a) (.ref n) (H.set n (.dictE 0)) Q = Q () ((H.set n (.dictE 0)).set a (.inst 397 d (ckF (.int S.nv) (.ref a1) (.ref n) (.ref a3) (.ref a4)))) := by
  rw [put_at ((AH.set_ne _ _ (AH.ne_of R.at' hn)).trans R.at') hA_he, ckP_he]
theorem RepC.pVo (R : RepC H a d a1 a2 a3 a4 S N) {n : Addr} (hn : H n = none) {Q : Unit → AH → Prop} : wPutA "value_of" (.ref a) (.ref n) (H.set n (.dictE 0)) Q = Q () ((H.set n (.dictE 0)).set a (.inst 397 d (ckF (.int S.nv) (.ref n) (.ref a2) (.ref a3) (.ref a4)))) := by
  rw [put_at ((AH.set_ne _ _ (AH.ne_of R.at' hn)).trans R.at') hA_vo, ckP_vo]
theorem RepC.pInc (R : RepC H a d a1 a2 a3 a4 S N) {n : Addr} (hn : H n = none) {Q : Unit → AH → Prop} : wPutA "incoming" (.ref a) (.ref n) (H.set n (.dictE 0)) Q = Q () ((H.set n (.dictE 0)).set a (.inst 397 d (ckF (.int S.nv) (.ref a1) (.ref a2) (.ref n) (.ref a4)))) := by
  rw [put_at ((AH.set_ne _ _ (AH.ne_of R.at' hn)).trans R.at') hA_inc, ckP_inc]
end
theorem adv_loop {a n1 n2 : Addr} {r rest : V} {v : Int} {ps0 qs0 : List (Int × Op)} (hs : ps0.length ≤ 2) (K : Fl → AH → Prop) :
    ∀ (ps qs : List (Int × Op)) (i : Nat) (H : AH) (S : Ck) (N : Nat) (x7 x8 : Option V), ps0.drop i = ps → qs0.drop i = qs → ps.length = qs.length → i + ps.length = ps0.length →
    WF H → Rep H a S N → N + 2 * ps.length ≤ 900000 → H n1 = some (.list (ps0.map roleV)) → H n2 = some (.list (qs0.map roleV)) → n1 ∉ foot H a → n2 ∉ foot H a →
    (∀ H' tl, Rep H' a (advLoop v ps qs S) (N + 2 * ps.length) → Evo a H H' → K (.next (some (.ref a) :: some r :: tl)) H') →
    wWhileN lt387_1 lb387_1 (ps.length + 1) [some (.ref a), some r, some rest, some (.int v), some (.ref n1), some (.ref n2), some (.int i), x7, x8] H K := by
  intro ps
  induction ps with
  | nil =>
    intro qs i H S N x7 x8 e1 e2 el ei wf R hN b1 b2 f1 f2 k
    simp only [wh_succ]
    have : ¬ ((i : Int) < ((ps0.map roleV).length : Int)) := by simp at ei ⊢; lia
    simp! only [↓lt387_1_ap, ↓len_list b1 (by simp; lia), ↓lt_f this]
    cases qs with
    | nil => exact k _ _ R (Evo.refl wf)
    | cons q qs => injection el
  | cons p ps ih =>
    intro qs i H S N x7 x8 e1 e2 el ei wf R hN b1 b2 f1 f2 k
    cases qs with
    | nil => injection el
    | cons q qs =>
    have hi : i < ps0.length := by simp at ei; lia
    have hp : ps0[i]? = some p := by rw [← List.head?_drop, e1]; rfl
    have hq : qs0[i]? = some q := by rw [← List.head?_drop, e2]; rfl
    have hp' : (ps0.map roleV)[i]? = some (roleV p) := by rw [List.getElem?_map, hp]; rfl
    have hq' : (qs0.map roleV)[i]? = some (roleV q) := by rw [List.getElem?_map, hq]; rfl
    have e1' : ps0.drop (i + 1) = ps := by rw [← List.tail_drop, e1]; rfl
    have e2' : qs0.drop (i + 1) = qs := by rw [← List.tail_drop, e2]; rfl
    have go : ∀ (H' : AH) (S' : Ck), advLoop v (p :: ps) (q :: qs) S = advLoop v ps qs S' → Rep H' a S' (N + 2) → Evo a H H' →
        wWhileN lt387_1 lb387_1 (ps.length + 1) [some (.ref a), some r, some rest, some (.int v), some (.ref n1), some (.ref n2), some (.int (i + 1)), some (.int p.1), some p.2.v] H' K := fun H' S' em R' E => by
      obtain ⟨c1, g1⟩ := E.stay b1 f1
      obtain ⟨c2, g2⟩ := E.stay b2 f2
      have := ih qs (i + 1) H' S' (N + 2) (some (.int p.1)) (some p.2.v) e1' e2' (by simpa using el) (by simp at ei; lia) E.wf R' (by simp at hN; lia) c1 c2 g1 g2 (fun H'' tl R'' E' => k H'' tl (by
        simp only [em, show N + 2 * (p :: ps).length = N + 2 + 2 * ps.length by simp; lia]; exact R'') (E.trans E'))
      simpa using this
    simp only [wh_succ]
    have : ((i : Int) < ((ps0.map roleV).length : Int)) := by simp; lia
    obtain ⟨d, a1, a2, a3, a4, RR⟩ := R
    simp! only [↓lt387_1_ap, ↓len_list b1 (by simp; lia), ↓lt_t this]
    simp! only [↓lb387_1_ap, ↓sub_list b1 hp' (by lia), ↓set_role]
    by_cases h1 : p.1 = 1
    · simp only [↓ne_f h1]
      exact go H S (by simp only [advLoop, h1, if_true]) ⟨_, _, _, _, _, RR.mono⟩ (Evo.refl wf)
    · simp! only [↓ne_t h1, ↓sub_list b2 hq' (by lia), ↓sub_role1, ↓m1_ RR.at']
      refine ⟨a, S, N, p.2, q.2, v, rfl, ⟨_, _, _, _, _, RR⟩, by simp at hN; lia, fun H' R' E => ?_⟩
      exact go H' _ (by simp only [advLoop, h1, if_false]) R' E
section
variable {c : Cx} (Fn : Fns c.K)
include Fn
theorem rf387 : RF c 2 387 sp387 := by
  have h359 := (rf359 Fn : RF c 1 359 sp359)
  have h186 := (rf186 Fn : RF c 1 186 sp186)
  have h193 := (rf193 Fn : RF c 1 193 sp193)
  have h331 := (rf331 Fn : RF c 1 331 sp331)
  have h352 := (rf352 Fn : RF c 1 352 sp352)
  have hnd : ((["self", "instruction", "real"] : List Str) ++ (["value", "pairs", "others", "at", "role", "operand"] : List Str)).Nodup := by decide
  refine rf_of (ps := (["self", "instruction", "real"] : List Str)) (rest := (["value", "pairs", "others", "at", "role", "operand"] : List Str)) Fn.f387 (zA1 (zD6 3 (zJ1 (f := 359) 397 (zA3 0) h359 (zA2 (zA3 1) zA7) _)) (zA1 (zE5 (zC4 (zA3 3) zB2 zE4) (zA1 (zD6 3 (zJ1 (f := 331) 397 (zA3 0) h331 zA7 _)) zA6) zA6) (zA1 (zD6 4 (zE6 (f := 186) h186 (zA2 (zA3 1) zA7))) (zA1 (zD6 5 (zE6 (f := 186) h186 (zA2 (zA3 2) zA7))) (zA1 (zD6 6 zB2) (zA1 (rs_while (zC4 (zA3 6) (zH2 _ rb_len (zA2 (zA3 4) zA7)) rv_lt) (zA1 (rs_asgT (zC2 (zA3 4) (zA3 6) zC1) (tg_two 7 8)) (zA1 (zE5 (zC4 (zA3 7) (zF6 1) rv_ne) (zA1 (zG6 (zJ1 (f := 352) 397 (zA3 0) h352 (zA2 (zA3 8) (zA2 (zC2 (zC2 (zA3 5) (zA3 6) zC1) zB2 zC1) (zA2 (zA3 3) zA7))) _)) zA6) zA6) (zA1 (rs_aug 6 zB2) zA6)))) (zA1 (zE5 (rt_of (zE6 (f := 193) h193 (zA2 (zA3 1) zA7))) (zA1 (rs_asgA re_dict (zA3 0)) zA6) zA6) (zA1 (zE5 (zH4 (zH7 (zC4 (zC2 (zA3 1) zB2 zC1) zC6 zE4) (zH7 (zC4 (zC2 (zA3 1) zB2 zC1) zC6 zE4) rts_nilO))) (zA1 (rs_asgA re_dict (zA3 0)) (zA1 (rs_asgA re_dict (zA3 0)) (zA1 (rs_asgA re_dict (zA3 0)) zA6))) zA6) zA6)))))))) ?_ (fun pm cd => len3 (fun _ _ _ => by rfl))
  rintro xs H Q wf ⟨a, S, N, r, p, rfl, ok, ok', hnm, RR, hN, q⟩
  refine ⟨rfl, ?_⟩
  show wBody _ [some _, some _, some _, none, none, none, none, none, none] _ _
  have RR' := RR
  obtain ⟨d, a1, a2, a3, a4, R⟩ := RR
  simp! only [↓wb387_ap, ↓m1_ R.at']
  refine ⟨a, S, N, r, rfl, ok, RR', ?_⟩
  have main : ∀ H1, Rep H1 a (advPre S r) N → Evo a H H1 → zB3 (zG7 (zD3 sp186 (zA4 (zB1 1) zB5)) 4) (zB3 (zG7 (zD3 sp186 (zA4 (zB1 2) zB5)) 5) (zB3 (zG7 (zA5 (V.int 0)) 6) (zB3 (wWhile lt387_1 lb387_1) (zB3 (zG3 (zB4 (zD3 sp193 (zA4 (zB1 1) zB5))) (zB3 (wAsgA wDict (zB1 0) (Str.ofString "outgoing")) zB6) zB6) (zB3 (zG3 (wOrB (zB4 (zC3 (zC3 (zB1 1) (zA5 (V.int 0)) zD5) (zA5 (V.str (Str.ofString "call"))) wEq)) (wOrB (zB4 (zC3 (zC3 (zB1 1) (zA5 (V.int 0)) zD5) (zA5 (V.str (Str.ofString "execute"))) wEq)) (wTrue false))) (zB3 (wAsgA wDict (zB1 0) (Str.ofString "held")) (zB3 (wAsgA wDict (zB1 0) (Str.ofString "value_of")) (zB3 (wAsgA wDict (zB1 0) (Str.ofString "incoming")) zB6))) zB6) zB6)))))
      [some (.ref a), some r.v, some p.v, some (.int (advVal S r)), none, none, none, none, none] H1 (fun f H' => match f with
        | .ret x => ∃ H'', Sub H'' H' ∧ Q x H''
        | .next _ => ∃ H'', Sub H'' H' ∧ Q .none H''
        | _ => False) := by
    intro H1 R1 E1
    simp! only []
    refine ⟨r, rfl, ok, fun n1 f1 => ?_⟩
    refine ⟨p, rfl, ok', fun n2 f2 => ?_⟩
    refine zC5 fun _ hk => ?_
    obtain ⟨d, a1, a2, a3, a4, R⟩ := R1
    have E2 := Evo.fresh E1.wf R.at' (n := n1) (o := .list (rolesV r)) f1
    have nf1 : n1 ∉ foot (H1.set n1 (.list (rolesV r))) a := by rw [foot_none R.at' f1]; exact R.notin E1.wf f1
    have R2 : RepC (H1.set n1 (.list (rolesV r))) a d a1 a2 a3 a4 (advPre S r) N := R.le ((Le.refl H1).set f1)
    have E3 := Evo.fresh E2.wf R2.at' (n := n2) (o := .list (rolesV p)) f2
    have nf2 : n2 ∉ foot ((H1.set n1 (.list (rolesV r))).set n2 (.list (rolesV p))) a := by rw [foot_none R2.at' f2]; exact R2.notin E2.wf f2
    obtain ⟨c1, nf1'⟩ := E3.stay (AH.set_self ..) nf1
    have R3 : RepC ((H1.set n1 (.list (rolesV r))).set n2 (.list (rolesV p))) a d a1 a2 a3 a4 (advPre S r) N := R2.le ((Le.refl _).set f2)
    refine hk ?_
    refine ⟨(roles r).length + 1, ?_⟩
    have hl := roles_len r
    refine adv_loop (v := advVal S r) (r := r.v) (rest := p.v) (ps0 := roles r) (qs0 := roles p) hl _ (roles r) (roles p) 0 _ (advPre S r) N none none rfl rfl (by simp [roles, hnm]) (by lia) E3.wf ⟨_, _, _, _, _, R3⟩ (by lia) c1 (AH.set_self ..) nf1' nf2 ?_
    intro H4 tl R4 E4
    have E4' := ((E1.trans E2).trans E3).trans E4
    refine ⟨r, rfl, ok.nm, ?_⟩
    have fin : ∀ H5, Rep H5 a (advOut (advLoop (advVal S r) (roles r) (roles p) (advPre S r)) r) (N + 4) → Evo a H H5 → zB3 (zG3 (wOrB (zB4 (zC3 (zC3 (zB1 1) (zA5 (V.int 0)) zD5) (zA5 (V.str (Str.ofString "call"))) wEq)) (wOrB (zB4 (zC3 (zC3 (zB1 1) (zA5 (V.int 0)) zD5) (zA5 (V.str (Str.ofString "execute"))) wEq)) (wTrue false))) (zB3 (wAsgA wDict (zB1 0) (Str.ofString "held")) (zB3 (wAsgA wDict (zB1 0) (Str.ofString "value_of")) (zB3 (wAsgA wDict (zB1 0) (Str.ofString "incoming")) zB6))) zB6) zB6 (some (.ref a) :: some r.v :: tl) H5 (fun f H' => match f with
        | .ret x => ∃ H'', Sub H'' H' ∧ Q x H''
        | .next _ => ∃ H'', Sub H'' H' ∧ Q .none H''
        | _ => False) := by
      intro H5 R5 E5
      obtain ⟨d, a1, a2, a3, a4, R⟩ := R5
      have yes : isCall r → (∀ n, H5 n = none → wPutA "held" (.ref a) (.ref n) (H5.set n (.dictE 0)) fun _ H6 => ∀ n', H6 n' = none → wPutA "value_of" (.ref a) (.ref n') (H6.set n' (.dictE 0)) fun _ H7 => ∀ n'', H7 n'' = none → wPutA "incoming" (.ref a) (.ref n'') (H7.set n'' (.dictE 0)) fun _ H8 => ∃ H'', Sub H'' H8 ∧ Q .none H'') := by
        intro hc n hn
        rw [R.pHe hn]
        intro n' hn'
        obtain ⟨R6, E6⟩ := R.newHe E5.wf hn
        rw [R6.pVo hn']
        intro n'' hn''
        obtain ⟨R7, E7⟩ := R6.newVo E6.wf hn'
        simp only [R7.pInc hn'']
        obtain ⟨R8, E8⟩ := R7.newInc E7.wf hn''
        refine zB7 E8.wf (q _ ⟨d, n', n, n'', a4, ?_⟩ (((E5.trans E6).trans E7).trans E8))
        have : adv S r p = { advOut (advLoop (advVal S r) (roles r) (roles p) (advPre S r)) r with he := fun _ => none, vo := fun _ => none, inc := fun _ => none } := by simp only [adv, advCall, hc, if_true]
        simp only [this]; exact R8
      by_cases h1 : r.nm = "call"
      · simp! only [↓wSub_row0, ↓qs_t ok.nm n_call h1]
        exact yes (.inl h1)
      · by_cases h2 : r.nm = "execute"
        · simp! only [↓wSub_row0, ↓qs_f ok.nm n_call h1, ↓qs_t ok.nm n_exe h2]
          exact yes (.inr h2)
        · simp! only [↓wSub_row0, ↓qs_f ok.nm n_call h1, ↓qs_f ok.nm n_exe h2]
          have hc : ¬ isCall r := fun h => h.elim h1 h2
          refine zB7 E5.wf (q _ ⟨d, a1, a2, a3, a4, ?_⟩ E5)
          have : adv S r p = advOut (advLoop (advVal S r) (roles r) (roles p) (advPre S r)) r := by simp only [adv, advCall, hc, if_false]
          simp only [this]; exact R
    obtain ⟨d, a1, a2, a3, a4, R⟩ := R4
    cases he : ends r with
    | false =>
      refine fin H4 ⟨d, a1, a2, a3, a4, ?_⟩ E4'
      simp only [advOut, he, Bool.false_eq_true, if_false]; exact R.mono
    | true =>
      refine fun n hn => ?_
      show wPutA "outgoing" (.ref a) (.ref n) (H4.set n (.dictE 0)) _
      rw [R.pOut hn]
      obtain ⟨R5, E5⟩ := R.newOut E4'.wf hn
      refine fin _ ⟨d, a1, a2, a3, n, ?_⟩ (E4'.trans E5)
      simp only [advOut, he, if_true]; exact R5.mono
  by_cases hc : copied S r = 0
  · simp! only [↓eq_t hc, ↓m1_ R.at']
    refine ⟨a, S, N, rfl, RR', fun H1 R1 E1 => ?_⟩
    have e1 : advPre S r = { S with nv := S.nv + 1 } := by simp only [advPre, hc, if_true]
    have e2 : advVal S r = S.nv + 1 := by simp only [advVal, hc, if_true]
    have := main H1 (by rw [e1]; exact R1) E1
    rw [e2] at this; exact this
  · simp! only [↓eq_f hc, ↓m1_ R.at']
    have e1 : advPre S r = S := by simp only [advPre, hc, if_false]
    have e2 : advVal S r = copied S r := by simp only [advVal, hc, if_false]
    have := main H (by rw [e1]; exact RR') (Evo.refl wf)
    rw [e2] at this; exact this
end
end
section
noncomputable def ck0 : Ck := ⟨0, fun _ => none, fun _ => none, fun _ => none, fun _ => none⟩
noncomputable def initC : Nat → Ck
  | 0 => ck0
  | k + 1 => let S := initC k
    { nv := S.nv + 1, vo := S.vo, he := upd S.he (k + 1) (S.nv + 1), inc := upd S.inc (k + 1) (S.nv + 1), out := S.out }
inductive Sp324 (xs : List V) (H : AH) (Q : V → AH → Prop) : Prop
  | of : ∀ (a d : Addr) (k : Nat), (xs = [.ref a, .int k]) → (H a = some (.inst 397 d [])) → (H d = some (.own a)) → (k ≤ 100) → (∀ H', Rep H' a (initC k) (2 * k) → Evo a H H' → Q .none H') → Sp324 xs H Q
noncomputable abbrev sp324 : List V → Wp V := Sp324
noncomputable def lt324_1 : Ls → Wp Bool := (zB4 (zC3 (zB1 2) (zB1 1) (wInt fun i j => V.bool (decide (i ≤ j)))))
noncomputable def lb324_1 : Ls → Wp Fl := (zB3 (zG7 (wMeth 397 (zB1 0) sp331 zB5) 3) (zB3 (wAsgI (zB1 3) (wOne (zB1 0) (zJ3 (Str.ofString "incoming"))) (zB1 2)) (zB3 (wAsgI (zB1 3) (wOne (zB1 0) (zJ3 (Str.ofString "held"))) (zB1 2)) (zB3 (wAug 2 (zA5 (V.int 1))) zB6))))
noncomputable def wb324 : Ls → Wp Fl := (zB3 (wAsgA (zA5 (V.int 0)) (zB1 0) (Str.ofString "next_value")) (zB3 (wAsgA wDict (zB1 0) (Str.ofString "value_of")) (zB3 (wAsgA wDict (zB1 0) (Str.ofString "held")) (zB3 (wAsgA wDict (zB1 0) (Str.ofString "incoming")) (zB3 (wAsgA wDict (zB1 0) (Str.ofString "outgoing")) (zB3 (zG7 (zA5 (V.int 1)) 2) (zB3 (wWhile lt324_1 lb324_1) zB6)))))))
theorem lt324_1_ap {l : Ls} {H : AH} {Q : Bool → AH → Prop} : lt324_1 l H Q = (zB4 (zC3 (zB1 2) (zB1 1) (wInt fun i j => V.bool (decide (i ≤ j))))) l H Q := rfl
theorem lb324_1_ap {l : Ls} {H : AH} {Q : Fl → AH → Prop} : lb324_1 l H Q = (zB3 (zG7 (wMeth 397 (zB1 0) sp331 zB5) 3) (zB3 (wAsgI (zB1 3) (wOne (zB1 0) (zJ3 (Str.ofString "incoming"))) (zB1 2)) (zB3 (wAsgI (zB1 3) (wOne (zB1 0) (zJ3 (Str.ofString "held"))) (zB1 2)) (zB3 (wAug 2 (zA5 (V.int 1))) zB6)))) l H Q := rfl
theorem wb324_ap {l : Ls} {H : AH} {Q : Fl → AH → Prop} : wb324 l H Q = (zB3 (wAsgA (zA5 (V.int 0)) (zB1 0) (Str.ofString "next_value")) (zB3 (wAsgA wDict (zB1 0) (Str.ofString "value_of")) (zB3 (wAsgA wDict (zB1 0) (Str.ofString "held")) (zB3 (wAsgA wDict (zB1 0) (Str.ofString "incoming")) (zB3 (wAsgA wDict (zB1 0) (Str.ofString "outgoing")) (zB3 (zG7 (zA5 (V.int 1)) 2) (zB3 (wWhile lt324_1 lb324_1) zB6))))))) l H Q := rfl
theorem init_loop {a : Addr} {k : Nat} (K : Fl → AH → Prop) : ∀ (m i : Nat) (H : AH) (x3 : Option V), i + m = k → WF H → Rep H a (initC i) (2 * i) → k ≤ 100 →
    (∀ H' l', Rep H' a (initC k) (2 * k) → Evo a H H' → K (.next l') H') →
    wWhileN lt324_1 lb324_1 (m + 1) [some (.ref a), some (.int k), some (.int (i + 1)), x3] H K := by
  intro m
  induction m with
  | zero =>
    intro i H x3 e wf R hk q
    have : i = k := by lia
    subst this
    simp only [wh_succ]
    simp! only [↓lt324_1_ap, ↓le_f (show ¬ ((i : Int) + 1 ≤ (i : Int)) by lia)]
    exact q _ _ R (Evo.refl wf)
  | succ m ih =>
    intro i H x3 e wf R hk q
    simp only [wh_succ]
    have R' := R
    obtain ⟨d, a1, a2, a3, a4, RR⟩ := R
    simp! only [↓lt324_1_ap, ↓le_t (show ((i : Int) + 1 ≤ (k : Int)) by lia)]
    simp! only [↓lb324_1_ap, ↓m1_ RR.at']
    refine ⟨a, _, _, rfl, R', fun H1 R1 E1 => ?_⟩
    obtain ⟨d, a1, a2, a3, a4, R1⟩ := R1
    simp! only [↓m1_ R1.at', ↓at_ R1.at' ckF_inc rfl]
    refine R1.inc.put (by lia) fun o hi hw h => ?_
    obtain ⟨R2, E2⟩ := R1.putInc E1.wf hi h
    simp! only [↓m1_ R2.at', ↓at_ R2.at' ckF_he rfl]
    refine R2.he.put (by lia) fun o hi hw h => ?_
    obtain ⟨R3, E3⟩ := R2.putHe E2.wf hi h
    try simp! only []
    have E := (E1.trans E2).trans E3
    have := ih (i + 1) _ (some (.int ((initC i).nv + 1))) (by lia) E3.wf ⟨d, a1, a2, a3, a4, R3.mono⟩ hk (fun H' l' R' E' => q H' l' R' (E.trans E'))
    simpa using this
open Classical in
noncomputable def chk : List Row → List Row → Ck → Bool
  | [], ps, _ => ps.isEmpty
  | r :: rs, p :: ps, S => if matchesC S r p then chk rs ps (adv S r p) else if (leftOut S r).1 then chk rs (p :: ps) (leftOut S r).2 else false
  | r :: rs, [], S => if (leftOut S r).1 then chk rs [] (leftOut S r).2 else false
theorem put_new {H : AH} {a n C d : Addr} {fs : List (Str × V)} {name : Str} {o : AO} (ha : H a = some (.inst C d fs)) (hn : H n = none) (h : attrHas C name = true) {Q : Unit → AH → Prop} :
    wPutA name (.ref a) (.ref n) (H.set n o) Q = Q () ((H.set n o).set a (.inst C d (fput fs name (.ref n)))) := put_at ((AH.set_ne _ _ (AH.ne_of ha hn)).trans ha) h
noncomputable def Kp (a : Addr) (H H' : AH) : Prop := ∀ b o, b ≠ a → H b = some o → H' b = some o
theorem Kp.trans {a : Addr} {H H' H'' : AH} (x : Kp a H H') (y : Kp a H' H'') : Kp a H H'' := fun b o n e => y b o n (x b o n e)
theorem Kp.new {H : AH} {a n : Addr} {o ob : AO} (hn : H n = none) : Kp a H ((H.set n o).set a ob) := fun b x ne e => by
  rw [AH.set_ne _ _ ne, AH.set_ne _ _ (AH.ne_of e hn)]; exact e
theorem Kp.put {H : AH} {a : Addr} {ob : AO} : Kp a H (H.set a ob) := fun b x ne e => by rw [AH.set_ne _ _ ne]; exact e
theorem Kp.none {H H' : AH} {a n : Addr} (x : Kp a H H') (ne : n ≠ a) (hn : H' n = none) : H n = none := by
  cases q : H n with
  | none => rfl
  | some o => rw [x n o ne q] at hn; injection hn
structure Own (a d : Addr) (H0 : AH) (fs : List (Str × V)) (H : AH) : Prop where
  wf : WF H
  at' : H a = some (.inst 397 d fs)
  kp : Kp a H0 H
theorem Own.step {a d : Addr} {H0 H : AH} {fs} (O : Own a d H0 fs H) {n : Addr} (hn : H n = none) (name : Str) :
    Own a d H0 (fput fs name (.ref n)) ((H.set n (.dictE 0)).set a (.inst 397 d (fput fs name (.ref n)))) ∧ ((H.set n (.dictE 0)).set a (.inst 397 d (fput fs name (.ref n)))) n = some (.dictE 0) ∧ n ≠ a ∧ H0 n = none ∧
    Kp a H ((H.set n (.dictE 0)).set a (.inst 397 d (fput fs name (.ref n)))) := by
  have na := (AH.ne_of O.at' hn).symm
  refine ⟨⟨WF.own (O.wf.new hn) (fs := fs) ?_, AH.set_self .., O.kp.trans (Kp.new hn)⟩, ?_, na, O.kp.none na hn, Kp.new hn⟩
  · rw [AH.set_ne _ _ na.symm]; exact O.at'
  · rw [AH.set_ne _ _ na]; exact AH.set_self ..
inductive Sp415 (xs : List V) (H : AH) (Q : V → AH → Prop) : Prop
  | of : ∀ (la lr : Addr) (k : Nat) (rows reals : List Row), (xs = [.ref la, .ref lr, .int k]) → (H la = some (.list (rows.map Row.v))) → (H lr = some (.list (reals.map Row.v))) → ((∀ r ∈ rows, Row.ok r)) → ((∀ r ∈ reals, Row.ok r)) → (rows.length ≤ 1000) → (reals.length ≤ 1000) → (k ≤ 100) → (Q (.bool (chk rows reals (initC k))) H) → Sp415 xs H Q
noncomputable abbrev sp415 : List V → Wp V := Sp415
noncomputable def lb415_1 : Ls → Wp Fl := (zB3 (zG3 (wAndB (zB4 (zC3 (zB1 4) (zD3 wLen (zA4 (zB1 1) zB5)) (wInt fun i j => V.bool (decide (i < j))))) (wAndB (zB4 (wMeth 397 (zB1 3) sp373 (zA4 (zB1 5) (zA4 (zC3 (zB1 1) (zB1 4) zD5) zB5)))) (wTrue true))) (zB3 (zG1 (wMeth 397 (zB1 3) sp387 (zA4 (zB1 5) (zA4 (zC3 (zB1 1) (zB1 4) zD5) zB5)))) (zB3 (wAug 4 (zA5 (V.int 1))) zB6)) (zB3 (zG3 (wNotB (zB4 (wMeth 397 (zB1 3) sp394 (zA4 (zB1 5) zB5)))) (zB3 (wRet (zA5 (V.bool false))) zB6) zB6) zB6)) zB6)
noncomputable def wb415 : Ls → Wp Fl := (zB3 (zG7 (wNew 397 sp324 (zA4 (zB1 2) zB5)) 3) (zB3 (zG7 (zA5 (V.int 0)) 4) (zB3 (wFor (zB1 0) (zG2 5) lb415_1) (zB3 (wRet (zC3 (zB1 4) (zD3 wLen (zA4 (zB1 1) zB5)) wEq)) zB6))))
theorem lb415_1_ap {l : Ls} {H : AH} {Q : Fl → AH → Prop} : lb415_1 l H Q = (zB3 (zG3 (wAndB (zB4 (zC3 (zB1 4) (zD3 wLen (zA4 (zB1 1) zB5)) (wInt fun i j => V.bool (decide (i < j))))) (wAndB (zB4 (wMeth 397 (zB1 3) sp373 (zA4 (zB1 5) (zA4 (zC3 (zB1 1) (zB1 4) zD5) zB5)))) (wTrue true))) (zB3 (zG1 (wMeth 397 (zB1 3) sp387 (zA4 (zB1 5) (zA4 (zC3 (zB1 1) (zB1 4) zD5) zB5)))) (zB3 (wAug 4 (zA5 (V.int 1))) zB6)) (zB3 (zG3 (wNotB (zB4 (wMeth 397 (zB1 3) sp394 (zA4 (zB1 5) zB5)))) (zB3 (wRet (zA5 (V.bool false))) zB6) zB6) zB6)) zB6) l H Q := rfl
theorem wb415_ap {l : Ls} {H : AH} {Q : Fl → AH → Prop} : wb415 l H Q = (zB3 (zG7 (wNew 397 sp324 (zA4 (zB1 2) zB5)) 3) (zB3 (zG7 (zA5 (V.int 0)) 4) (zB3 (wFor (zB1 0) (zG2 5) lb415_1) (zB3 (wRet (zC3 (zB1 4) (zD3 wLen (zA4 (zB1 1) zB5)) wEq)) zB6)))) l H Q := rfl
theorem lp_cons {src : Src} {tg : V → Ls → AH → (Ls → AH → Prop) → Prop} {b : Ls → Wp Fl} {x : V} {xs : List V} {l : Ls} {H : AH} {Q : Fl → AH → Prop} : wLoop src tg b (x :: xs) l H Q = tg x l H (kL1 src b (wLoop src tg b xs) Q) := rfl
set_option tactic.hygienic true in
theorem matches_nm {S r p} (h : matchesC S r p = true) : r.nm = p.nm := by
  unfold matchesC at h
  split at h
  · rename_i hs; simp only [zJ4, Bool.and_eq_true, decide_eq_true_eq] at hs; exact hs.1.2
  · injection h
theorem chk_loop {la lr n : Addr} {k : Nat} {rows0 reals0 : List Row} (ok1 : ∀ r ∈ rows0, Row.ok r) (ok2 : ∀ r ∈ reals0, Row.ok r) (hl2 : reals0.length ≤ 1000) (src : Src) (hsrc : src = .list la (rows0.map Row.v)) (K : Fl → AH → Prop) :
    ∀ (rs : List Row) (i : Nat) (H : AH) (S : Ck) (N : Nat) (x5 : Option V), (∀ r ∈ rs, r ∈ rows0) → i ≤ reals0.length → WF H → Rep H n S N → N + 4 * rs.length ≤ 10000 →
    H la = some (.list (rows0.map Row.v)) → H lr = some (.list (reals0.map Row.v)) → la ∉ foot H n → lr ∉ foot H n →
    (∀ H', Evo n H H' → chk rs (reals0.drop i) S = false → K (.ret (.bool false)) H') →
    (∀ H' j x, Evo n H H' → H' lr = some (.list (reals0.map Row.v)) → chk rs (reals0.drop i) S = decide (j = reals0.length) → K (.next [some (.ref la), some (.ref lr), some (.int k), some (.ref n), some (.int (j : Nat)), x]) H') →
    wLoop src (zG2 5) lb415_1 (rs.map Row.v) [some (.ref la), some (.ref lr), some (.int k), some (.ref n), some (.int (i : Nat)), x5] H K := by
  intro rs
  induction rs with
  | nil =>
    intro i H S N x5 sub hi wf R hN b1 b2 f1 f2 kR kN
    refine kN H i _ (Evo.refl wf) b2 ?_
    simp only [chk, List.isEmpty_iff, List.drop_eq_nil_iff]
    rw [Bool.eq_iff_iff]
    simp
    lia
  | cons r rs ih =>
    intro i H S N x5 sub hi wf R hN b1 b2 f1 f2 kR kN
    have okr := ok1 r (sub r (.head _))
    have sub' : ∀ x ∈ rs, x ∈ rows0 := fun x hx => sub x (.tail _ hx)
    obtain ⟨d, a1, a2, a3, a4, RR⟩ := R
    have still : ∀ H', Evo n H H' → Still H' src := fun H' E => by subst hsrc; exact (E.stay b1 f1).1
    have go : ∀ H' S' j, Evo n H H' → Rep H' n S' (N + 4) → j ≤ reals0.length → chk (r :: rs) (reals0.drop i) S = chk rs (reals0.drop j) S' →
        wLoop src (zG2 5) lb415_1 (rs.map Row.v) [some (.ref la), some (.ref lr), some (.int k), some (.ref n), some (.int (j : Nat)), some r.v] H' K := fun H' S' j E R' hj em => by
      refine zC5 fun _ hk => ?_
      obtain ⟨c1, g1⟩ := E.stay b1 f1
      obtain ⟨c2, g2⟩ := E.stay b2 f2
      refine hk ?_
      exact ih j H' S' (N + 4) _ sub' hj E.wf R' (by simp at hN; lia) c1 c2 g1 g2 (fun H'' E' h => kR H'' (E.trans E') (by rw [em]; exact h)) (fun H'' j' x E' h2 h => kN H'' j' x (E.trans E') h2 (by simp only [em]; exact h))
    have out : (∀ p ps, reals0.drop i = p :: ps → matchesC S r p = false) → ∀ K', (∀ H', Evo n H H' → (leftOut S r).1 = false → K' (.ret (.bool false)) H') → (∀ H', Evo n H H' → Rep H' n (leftOut S r).2 (N + 4) → (leftOut S r).1 = true → K' (.next [some (.ref la), some (.ref lr), some (.int k), some (.ref n), some (.int (i : Nat)), some r.v]) H') →
        (zB3 (zG3 (wNotB (zB4 (wMeth 397 (zB1 3) sp394 (zA4 (zB1 5) zB5)))) (zB3 (wRet (zA5 (V.bool false))) zB6) zB6) zB6) [some (.ref la), some (.ref lr), some (.int k), some (.ref n), some (.int (i : Nat)), some r.v] H K' := by
      intro hm K' h1 h2
      simp! only [↓m1_ RR.at']
      refine ⟨n, S, N, r, rfl, okr, ⟨_, _, _, _, _, RR⟩, by lia, fun H' R' E => ?_⟩
      cases hl : (leftOut S r).1 with
      | false =>
        exact h1 H' E hl
      | true =>
        exact h2 H' E (let ⟨d, a1, a2, a3, a4, R'⟩ := R'; ⟨d, a1, a2, a3, a4, R'.mono⟩) hl
    have leave : (∀ p ps, reals0.drop i = p :: ps → matchesC S r p = false) → chk (r :: rs) (reals0.drop i) S = if (leftOut S r).1 then chk rs (reals0.drop i) (leftOut S r).2 else false := fun hm => by
      cases hd : reals0.drop i with
      | nil => rfl
      | cons p ps => simp only [chk, hm p ps hd, Bool.false_eq_true, if_false]
    have out' : (∀ p ps, reals0.drop i = p :: ps → matchesC S r p = false) → (zB3 (zG3 (wNotB (zB4 (wMeth 397 (zB1 3) sp394 (zA4 (zB1 5) zB5)))) (zB3 (wRet (zA5 (V.bool false))) zB6) zB6) zB6) [some (.ref la), some (.ref lr), some (.int k), some (.ref n), some (.int (i : Nat)), some r.v] H (fun f H' => match (match f with | .next l' => (Fl.next l') | f => f) with
        | .next l'' => Still H' src ∧ wLoop src (zG2 5) lb415_1 (rs.map Row.v) l'' H' K
        | .cont l'' => Still H' src ∧ wLoop src (zG2 5) lb415_1 (rs.map Row.v) l'' H' K
        | .brk l'' => K (.next l'') H'
        | .ret v => K (.ret v) H') := fun hm => by
      refine out hm _ (fun H' E h => ?_) (fun H' E R' h => ?_)
      · exact kR H' E (by rw [leave hm, h]; rfl)
      · exact ⟨still H' E, go H' _ i E R' hi (by rw [leave hm, h]; rfl)⟩
    rw [List.map_cons, lp_cons]
    by_cases hlt : i < reals0.length
    · obtain ⟨p, hp⟩ : ∃ p, reals0[i]? = some p := ⟨reals0[i], by simp [hlt]⟩
      have hd : reals0.drop i = p :: reals0.drop (i + 1) := by
        rw [List.drop_eq_getElem_cons hlt]
        rw [List.getElem?_eq_getElem hlt] at hp
        rw [Option.some.inj hp]
      have hp' : (reals0.map Row.v)[i]? = some p.v := by simp only [List.getElem?_map, hp]; rfl
      have okp : p.ok := ok2 p (List.mem_of_getElem? hp)
      simp! only [↓lb415_1_ap, ↓len_list b2 (show (reals0.map Row.v).length ≤ 1000000 by simp; lia), ↓lt_t (show (i : Int) < ((reals0.map Row.v).length : Int) by simp; lia), ↓sub_list b2 hp' (show i < 1000000 by lia), ↓m1_ RR.at']
      refine ⟨n, S, N, r, p, rfl, okr, okp, ⟨_, _, _, _, _, RR⟩, ?_⟩
      cases hm : matchesC S r p with
      | true =>
        simp! only [↓sub_list b2 hp' (show i < 1000000 by lia), ↓m1_ RR.at']
        refine ⟨n, S, N, r, p, rfl, okr, okp, matches_nm hm, ⟨_, _, _, _, _, RR⟩, by lia, fun H' R' E => ?_⟩
        refine ⟨still H' E, ?_⟩
        have := go H' _ (i + 1) E R' (by lia) (by rw [hd]; simp only [chk, hm, if_true])
        simpa using this
      | false =>
        exact out' fun p' ps e => by rw [hd] at e; cases e; exact hm
    · simp! only [↓lb415_1_ap, ↓len_list b2 (show (reals0.map Row.v).length ≤ 1000000 by simp; lia), ↓lt_f (show ¬ (i : Int) < ((reals0.map Row.v).length : Int) by simp; lia)]
      exact out' fun p' ps e => by rw [List.drop_eq_nil_of_le (by lia)] at e; injection e
section
variable {c : Cx} (Fn : Fns c.K)
include Fn
theorem rf324 : RF c 2 324 sp324 := by
  have h331 := (rf331 Fn : RF c 1 331 sp331)
  have hnd : ((["self", "arity"] : List Str) ++ (["number", "value"] : List Str)).Nodup := by decide
  refine rf_of (ps := (["self", "arity"] : List Str)) (rest := (["number", "value"] : List Str)) Fn.f324 (zA1 (rs_asgA zB2 (zA3 0)) (zA1 (rs_asgA re_dict (zA3 0)) (zA1 (rs_asgA re_dict (zA3 0)) (zA1 (rs_asgA re_dict (zA3 0)) (zA1 (rs_asgA re_dict (zA3 0)) (zA1 (zD6 2 zB2) (zA1 (rs_while (zC4 (zA3 2) (zA3 1) rv_le) (zA1 (zD6 3 (zJ1 (f := 331) 397 (zA3 0) h331 zA7 _)) (zA1 (rs_asgI (zA3 3) (zF3 (zA3 0) zF2) (zA3 2)) (zA1 (rs_asgI (zA3 3) (zF3 (zA3 0) zF2) (zA3 2)) (zA1 (rs_aug 2 zB2) zA6))))) zA6))))))) ?_ (fun pm cd => len2 (fun _ _ => by rfl))
  rintro xs H Q wf ⟨a, d, k, rfl, ha, hd, hk, q⟩
  refine ⟨rfl, ?_⟩
  show wBody _ [some _, some _, none, none] _ _
  simp! only [↓wb324_ap, ↓put_at ha hA_nv]
  have O0 : Own a d H (fput [] "next_value" (.int 0)) (H.set a (.inst 397 d (fput [] "next_value" (.int 0)))) := ⟨wf.own ha, AH.set_self .., Kp.put⟩
  intro n1 f1
  obtain ⟨O1, z1, m1, g1, k1⟩ := O0.step f1 "value_of"
  show wPutA "value_of" (.ref a) (.ref n1) _ _
  rw [put_new O0.at' f1 hA_vo]
  intro n2 f2
  obtain ⟨O2, z2, m2, g2, k2⟩ := O1.step f2 "held"
  show wPutA "held" (.ref a) (.ref n2) _ _
  rw [put_new O1.at' f2 hA_he]
  intro n3 f3
  obtain ⟨O3, z3, m3, g3, k3⟩ := O2.step f3 "incoming"
  show wPutA "incoming" (.ref a) (.ref n3) _ _
  rw [put_new O2.at' f3 hA_inc]
  intro n4 f4
  obtain ⟨O4, z4, m4, g4, k4⟩ := O3.step f4 "outgoing"
  show wPutA "outgoing" (.ref a) (.ref n4) _ _
  rw [put_new O3.at' f4 hA_out]
  generalize hH1 : ((H.set a (.inst 397 d (fput [] "next_value" (.int 0)))).set n1 (.dictE 0)).set a _ = H1 at *
  generalize hH2 : (H1.set n2 (.dictE 0)).set a _ = H2 at *
  generalize hH3 : (H2.set n3 (.dictE 0)).set a _ = H3 at *
  generalize hH4 : (H3.set n4 (.dictE 0)).set a _ = H4 at *
  have y12 := AH.ne_of z1 f2
  have z1' := k2 _ _ m1 z1
  have y13 := AH.ne_of z1' f3
  have z1'' := k3 _ _ m1 z1'
  have y14 := AH.ne_of z1'' f4
  have z2' := k3 _ _ m2 z2
  have y23 := AH.ne_of z2 f3
  have y24 := AH.ne_of z2' f4
  have y34 := AH.ne_of z3 f4
  have R : RepC H4 a d n1 n2 n3 n4 ck0 0 := ⟨O4.at', ⟨y12, y13, y14, y23, y24, y34⟩, IsD.empty (k4 _ _ m1 z1''), IsD.empty (k4 _ _ m2 z2'), IsD.empty (k4 _ _ m3 z3), IsD.empty z4⟩
  have E : Evo a H H4 := by
    refine ⟨fun b o e nf => O4.kp b o (fun z => nf (by unfold foot; rw [ha, z]; simp)) e, fun b m => ?_, O4.wf⟩
    rw [R.foot] at m
    unfold foot; rw [ha]
    simp only [List.mem_cons, List.not_mem_nil, or_false] at m
    rcases m with h | h | h | h | h | h
    · exact .inl (by simp [h])
    · exact .inl (by simp [h])
    · exact .inr (by rw [h]; exact g1)
    · exact .inr (by rw [h]; exact g2)
    · exact .inr (by rw [h]; exact g3)
    · exact .inr (by rw [h]; exact g4)
  refine ⟨k + 1, init_loop _ k 0 H4 none (by lia) E.wf ⟨_, _, _, _, _, R⟩ hk fun H' l' R' E' => ?_⟩
  exact zB7 E'.wf (q _ R' (E.trans E'))
omit Fn in
theorem wf_inst {H : AH} (wf : WF H) {n m C : Addr} {fs} (hm : H m = none) (hn : H n = none) (ne : n ≠ m) : WF ((H.set m (.own n)).set n (.inst C m fs)) := fun a C' d' fs' e => by
  by_cases q : a = n
  · subst q; rw [AH.set_self] at e; cases e
    rw [AH.set_ne _ _ ne.symm, AH.set_self]
  · rw [AH.set_ne _ _ q] at e
    have qm : a ≠ m := fun z => by rw [z, AH.set_self] at e; exact nomatch e
    rw [AH.set_ne _ _ qm] at e
    have w := wf _ _ _ _ e
    rw [AH.set_ne _ _ (AH.ne_of w hn), AH.set_ne _ _ (AH.ne_of w hm)]; exact w
omit Fn in
theorem new_keep {H : AH} {n m C : Addr} {fs} (hm : H m = none) (hn : H n = none) : Le H ((H.set m (.own n)).set n (.inst C m fs)) := fun b o e => by
  rw [AH.set_ne _ _ (AH.ne_of e hn), AH.set_ne _ _ (AH.ne_of e hm)]; exact e
theorem rf415 : RF c 4 415 sp415 := by
  have h324 := ((rf324 Fn) : RF c 2 324 sp324)
  have h373 := ((rf373 Fn) : RF c 3 373 sp373)
  have h387 := ((rf387 Fn).mono (by lia : 2 ≤ 3) : RF c 3 387 sp387)
  have h394 := ((rf394 Fn).mono (by lia : 2 ≤ 3) : RF c 3 394 sp394)
  have hnd : ((["abstract", "real", "arity"] : List Str) ++ (["check", "at", "instruction"] : List Str)).Nodup := by decide
  refine rf_of (ps := (["abstract", "real", "arity"] : List Str)) (rest := (["check", "at", "instruction"] : List Str)) Fn.f415 (zA1 (zD6 3 (re_new (C := 397) (f := 324) h324 (zA2 (zA3 2) zA7))) (zA1 (zD6 4 zB2) (zA1 (rs_for (zA3 0) (tg_name 5) (zA1 (zE5 (zH4 (rts_and (zC4 (zA3 4) (zH2 _ rb_len (zA2 (zA3 1) zA7)) rv_lt) (rts_and (rt_of (zJ1 (f := 373) 397 (zA3 3) h373 (zA2 (zA3 5) (zA2 (zC2 (zA3 1) (zA3 4) zC1) zA7)) _)) rts_nilA))) (zA1 (zG6 (zJ1 (f := 387) 397 (zA3 3) h387 (zA2 (zA3 5) (zA2 (zC2 (zA3 1) (zA3 4) zC1) zA7)) _)) (zA1 (rs_aug 4 zB2) zA6)) (zA1 (zE5 (rt_not (rt_of (zJ1 (f := 394) 397 (zA3 3) h394 (zA2 (zA3 5) zA7) _))) (zA1 (zD4 re_bool) zA6) zA6) zA6)) zA6)) (zA1 (zD4 (re_cmp (zA3 4) (zH2 _ rb_len (zA2 (zA3 1) zA7)) zE4)) zA6)))) ?_ (fun pm cd => len3 (fun _ _ _ => by rfl))
  rintro xs H Q wf ⟨la, lr, k, rows, reals, rfl, h1, h2, ok1, ok2, hl1, hl2, hk, q⟩
  refine ⟨rfl, ?_⟩
  show wBody wb415 _ H _
  simp! only [↓wb415_ap, ↓wNew]
  intro n m ne hn hm
  have wf1 := wf_inst wf (C := 397) (fs := []) hm hn ne
  have le1 : Le H ((H.set m (.own n)).set n (.inst 397 m [])) := new_keep hm hn
  refine ⟨n, m, k, rfl, AH.set_self .., by rw [AH.set_ne _ _ ne.symm, AH.set_self], hk, fun H1 R1 E1 => ⟨rfl, ?_⟩⟩
  have ff : foot ((H.set m (.own n)).set n (.inst 397 m [])) n = [n, m] := by unfold foot; rw [AH.set_self]; rfl
  have nf : ∀ b o, H b = some o → b ∉ foot ((H.set m (.own n)).set n (.inst 397 m [])) n := fun b o e => by
    rw [ff]; simp only [List.mem_cons, List.not_mem_nil, or_false, not_or]
    exact ⟨AH.ne_of e hn, AH.ne_of e hm⟩
  have le : ∀ H', Evo n ((H.set m (.own n)).set n (.inst 397 m [])) H' → Le H H' := fun H' E b o e => E.keep b o (le1 b o e) (nf b o e)
  obtain ⟨c1, g1⟩ := E1.stay (le1 _ _ h1) (nf _ _ h1)
  obtain ⟨c2, g2⟩ := E1.stay (le1 _ _ h2) (nf _ _ h2)
  simp! only [↓wFor]
  refine ⟨.list la (rows.map Row.v), .list (c1), trivial, ?_⟩
  refine chk_loop (k := k) ok1 ok2 hl2 (.list la (rows.map Row.v)) rfl _ rows 0 H1 (initC k) (2 * k) none (fun _ h => h) (by lia) E1.wf R1 (by lia) c1 c2 g1 g2 ?_ ?_
  · intro H' E h
    exact ret_le (le H' (E1.trans E)) wf (by rw [List.drop_zero] at h; rw [h] at q; exact q)
  · intro H' j x E hr h
    rw [List.drop_zero] at h
    simp! only [↓len_list hr (show (reals.map Row.v).length ≤ 1000000 by simp; lia)]
    by_cases e : j = reals.length
    · rw [eq_t (by simp; lia)]
      exact ret_le (le H' (E1.trans E)) wf (by rw [h] at q; simpa [e] using q)
    · rw [eq_f (by simp; lia)]
      exact ret_le (le H' (E1.trans E)) wf (by rw [h] at q; simpa [e] using q)
end
end
section
noncomputable def MD (H : AH) (t : Addr) (F : Addr → Prop) (M : Int → List V) (N : Nat) : Prop := ∃ es : List (Int × V), es.length ≤ N ∧ ((∃ ep, H t = some (.dictI ep es)) ∨ (es = [] ∧ ∃ ep, H t = some (.dictE ep))) ∧
  (∀ k, look es k = none → M k = []) ∧ (∀ k v, look es k = some v → ∃ la, v = .ref la ∧ F la ∧ H la = some (.list (M k)) ∧ (M k).length ≤ N) ∧ (∀ k k' v, look es k = some v → look es k' = some v → k = k')
noncomputable def updM {α : Type} (M : Int → α) (k : Int) (x : α) : Int → α := fun z => if z = k then x else M z
theorem MD.ok {H t F M N} (h : MD H t F M N) : isDict H (.ref t) := by
  obtain ⟨es, _, h1 | ⟨_, h1⟩, _⟩ := h <;> obtain ⟨ep, h1⟩ := h1 <;> simp [isDict, h1]
theorem MD.dict {H t F M N} (h : MD H t F M N) : ∃ o, H t = some o ∧ (∀ xs, o ≠ .list xs) ∧ (∀ C d fs, o ≠ .inst C d fs) ∧ ∀ b, o ≠ .own b := by
  obtain ⟨es, _, h1 | ⟨_, h1⟩, _⟩ := h <;> obtain ⟨ep, h1⟩ := h1
  · exact ⟨_, h1, (by intro _ q; injection q), (by intro _ _ _ q; injection q), (by intro _ q; injection q)⟩
  · exact ⟨_, h1, (by intro _ q; injection q), (by intro _ _ _ q; injection q), (by intro _ q; injection q)⟩
theorem MD.mono {H t F M N N'} (h : MD H t F M N) (le : N ≤ N') : MD H t F M N' := by
  obtain ⟨es, h0, h1, h2, h3, h4⟩ := h
  exact ⟨es, by lia, h1, h2, fun k v e => let ⟨la, a, b, c, d⟩ := h3 k v e; ⟨la, a, b, c, by lia⟩, h4⟩
theorem MD.keep {H H' t F M N} (h : MD H t F M N) (e1 : ∀ o, H t = some o → H' t = some o) (e2 : ∀ b o, H b = some o → F b → H' b = some o) : MD H' t F M N := by
  obtain ⟨es, h0, h1, h2, h3, h4⟩ := h
  refine ⟨es, h0, ?_, h2, fun k v e => let ⟨la, a, b, c, d⟩ := h3 k v e; ⟨la, a, b, e2 _ _ c b, d⟩, h4⟩
  rcases h1 with ⟨ep, h1⟩ | ⟨h5, ep, h1⟩
  · exact .inl ⟨ep, e1 _ h1⟩
  · exact .inr ⟨h5, ep, e1 _ h1⟩
theorem MD.empty {H : AH} {t : Addr} {F} {ep} (h : H t = some (.dictE ep)) : MD H t F (fun _ => []) 0 := ⟨[], by simp, .inr ⟨rfl, ep, h⟩, fun _ _ => rfl, (fun _ _ e => by injection e), (fun _ _ _ e => by injection e)⟩
theorem MD.get {H t F M N k n} (h : MD H t F M N) (hn : H n = none) {Q : V → AH → Prop} (q : ∀ la, (H.set n (.list [])) la = some (.list (M k)) → (M k).length ≤ N → Q (.ref la) (H.set n (.list []))) : wGet [.ref t, .int k, .ref n] (H.set n (.list [])) Q := by
  obtain ⟨o, ho, _⟩ := h.dict
  have tn := AH.ne_of ho hn
  obtain ⟨es, h0, h1, h2, h3, h4⟩ := h
  have e1 : look es k = none → Q (.ref n) (H.set n (.list [])) := fun e => q n (by rw [AH.set_self, h2 k e]) (by rw [h2 k e]; simp)
  rcases h1 with ⟨ep, h1⟩ | ⟨h5, ep, h1⟩
  · dsimp only [wGet]; simp only [AH.set_ne _ _ tn, h1]
    cases e : look es k with
    | none => exact e1 e
    | some v =>
      obtain ⟨la, rfl, b, c, d⟩ := h3 k v e
      exact q la (by rw [AH.set_ne _ _ (AH.ne_of c hn)]; exact c) d
  · subst h5
    dsimp only [wGet]; simp only [AH.set_ne _ _ tn, h1]
    exact e1 rfl
set_option tactic.hygienic true in
theorem MD.add {H t F M N k n v} (h : MD H t F M N) (wf : WF H) (hN : N ≤ 900000) (hn : H n = none) {Q : V → AH → Prop} (q : ∀ H' F', MD H' t F' (updM M k (M k ++ [v])) (N + 1) → (∀ b o, H b = some o → b ≠ t → (∀ xs, o ≠ .list xs) ∨ ¬ F b → H' b = some o) →
    (∀ b, F b → F' b) → (∀ b, F' b → F b ∨ H b = none) → WF H' → Q .none H') : wSetD [.ref t, .int k, .ref n] (H.set n (.list [])) (fun x H' => zE1 H' x ∧ zD1 [x, v] H' Q) := by
  refine zC5 fun _ hk => ?_
  obtain ⟨o, ho, hol, hoi, hoo⟩ := h.dict
  have tn := AH.ne_of ho hn
  obtain ⟨es, h0, h1, h2, h3, h4⟩ := h
  have wf1 : WF (H.set n (.list [])) := wf.new hn
  refine hk ?_
  have new : look es k = none → ∀ ep, (zE1 ((H.set n (.list [])).set t (.dictI ep (dput es k (.ref n)))) (.ref n) ∧ zD1 [.ref n, v] ((H.set n (.list [])).set t (.dictI ep (dput es k (.ref n)))) Q) := fun e ep => by
    have hn' : ((H.set n (.list [])).set t (.dictI ep (dput es k (.ref n)))) n = some (.list []) := by rw [AH.set_ne _ _ tn.symm, AH.set_self]
    have wf2 : WF ((H.set n (.list [])).set t (.dictI ep (dput es k (.ref n)))) := wf1.upd (o := o) (by rw [AH.set_ne _ _ tn]; exact ho) (by intro _ _ _ q; injection q) hoo
    refine ⟨by rw [ok_list hn']; trivial, ?_⟩
    rw [zH3 hn' (by simp)]
    refine q _ (fun b => F b ∨ b = n) ⟨dput es k (.ref n), ?_, .inl ⟨ep, ?_⟩, ?_, ?_, ?_⟩ ?_ (fun _ h => .inl h) (fun b h => h.elim .inl fun h => .inr (by rw [h]; exact hn)) (wf2.upd hn')
    · exact Nat.le_trans (length_dput ..) (by lia)
    · simp only [AH.set_ne _ _ tn, AH.set_self]
    · intro k' e'
      rw [look_dput] at e'
      unfold updM
      split at e'
      · injection e'
      · rename_i ne; rw [if_neg ne]; exact h2 k' e'
    · intro k' v' e'
      rw [look_dput] at e'
      dsimp only [updM]
      split at e'
      · rename_i ee; cases ee; obtain rfl := Option.some.inj e'
        exact ⟨n, rfl, .inr rfl, by rw [AH.set_self, if_pos rfl, h2 _ e], by rw [if_pos rfl, h2 _ e]; simp⟩
      · rename_i ne; rw [if_neg ne]
        obtain ⟨la, rfl, b, c, d⟩ := h3 k' v' e'
        have ln := AH.ne_of c hn
        have lt : la ≠ t := fun z => by rw [z, ho] at c; exact hol _ (Option.some.inj c)
        exact ⟨la, rfl, .inl b, by rw [AH.set_ne _ _ ln, AH.set_ne _ _ lt, AH.set_ne _ _ ln]; exact c, by lia⟩
    · intro k1 k2 v' e1 e2
      rw [look_dput] at e1 e2
      split at e1
      · rename_i z1; obtain rfl := Option.some.inj e1
        split at e2
        · rename_i z2; simp only [z1, z2]
        · obtain ⟨la, r, b, c, d⟩ := h3 _ _ e2; cases r; rw [hn] at c; injection c
      · split at e2
        · obtain rfl := Option.some.inj e2; obtain ⟨la, r, b, c, d⟩ := h3 _ _ e1; cases r; rw [hn] at c; injection c
        · exact h4 _ _ _ e1 e2
    · intro b x e nt _
      have bn := AH.ne_of e hn
      rw [AH.set_ne _ _ bn, AH.set_ne _ _ nt, AH.set_ne _ _ bn]; exact e
  rcases h1 with ⟨ep, h1⟩ | ⟨h5, ep, h1⟩
  · dsimp only [wSetD]; simp only [AH.set_ne _ _ tn, h1]
    refine ⟨by lia, ?_⟩
    cases e : look es k with
    | none => exact fun ep' => new e ep'
    | some w =>
      obtain ⟨la, rfl, b, c, d⟩ := h3 k w e
      have ln := AH.ne_of c hn
      have hl : (H.set n (.list [])) la = some (.list (M k)) := by rw [AH.set_ne _ _ ln]; exact c
      have lt : la ≠ t := fun z => by rw [z, ho] at c; exact hol _ (Option.some.inj c)
      refine ⟨by rw [ok_list hl]; trivial, ?_⟩
      rw [zH3 hl (by lia)]
      refine q _ F ⟨es, by lia, .inl ⟨ep, ?_⟩, ?_, ?_, h4⟩ ?_ (fun _ h => h) (fun _ h => .inl h) (wf1.upd hl)
      · rw [AH.set_ne _ _ lt.symm, AH.set_ne _ _ tn]; exact h1
      · intro k' e'
        unfold updM
        by_cases z : k' = k
        · cases z; rw [e] at e'; injection e'
        · rw [if_neg z]; exact h2 k' e'
      · intro k' v' e'
        unfold updM
        by_cases z : k' = k
        · cases z; rw [e] at e'; obtain rfl := Option.some.inj e'
          exact ⟨la, rfl, b, by rw [AH.set_self, if_pos rfl], by rw [if_pos rfl]; simp; lia⟩
        · rw [if_neg z]
          obtain ⟨la', rfl, b', c', d'⟩ := h3 k' v' e'
          have ll : la' ≠ la := fun y => z (h4 _ _ _ e' (by rw [y]; exact e))
          exact ⟨la', rfl, b', by rw [AH.set_ne _ _ ll, AH.set_ne _ _ (AH.ne_of c' hn)]; exact c', by lia⟩
      · intro b' x e' nt hh
        have : b' ≠ la := fun z => by
          rcases hh with hh | hh
          · rw [z, c] at e'; exact hh _ (Option.some.inj e').symm
          · exact hh (by rw [z]; exact b)
        rw [AH.set_ne _ _ this, AH.set_ne _ _ (AH.ne_of e' hn)]; exact e'
  · subst h5
    dsimp only [wSetD]; simp only [AH.set_ne _ _ tn, h1]
    exact fun ep' => new rfl ep'
structure EvoF (F F' : Addr → Prop) (H H' : AH) : Prop where
  keep : ∀ b o, H b = some o → ¬ F b → H' b = some o
  new : ∀ b, F' b → F b ∨ H b = none
  wf : WF H'
theorem EvoF.trans {F F' F'' : Addr → Prop} {H H' H'' : AH} (x : EvoF F F' H H') (y : EvoF F' F'' H' H'') : EvoF F F'' H H'' where
  keep := fun b o e n => y.keep b o (x.keep b o e n) fun m => by
    rcases x.new b m with h | h
    · exact n h
    · rw [h] at e; injection e
  new := fun b m => by
    rcases y.new b m with h | h
    · exact x.new b h
    · by_cases n : F b
      · exact .inl n
      · refine .inr ?_
        cases q : H b with
        | none => rfl
        | some o => rw [x.keep b o q n] at h; injection h
  wf := y.wf
theorem EvoF.stay {F F' : Addr → Prop} {H H' : AH} (E : EvoF F F' H H') {n : Addr} {o : AO} (hn : H n = some o) (nf : ¬ F n) : H' n = some o ∧ ¬ F' n :=
  ⟨E.keep n o hn nf, fun m => by
    rcases E.new n m with h | h
    · exact nf h
    · rw [h] at hn; cases hn⟩
theorem EvoF.le {F F' : Addr → Prop} {H0 H H' : AH} (l : Le H0 H) (nf : ∀ b o, H0 b = some o → ¬ F b) (E : EvoF F F' H H') : Le H0 H' := fun b o e => E.keep b o (l b o e) (nf b o e)
noncomputable def rfF (t h : V) : List (Str × V) := [("taken", t), ("home", h)]
theorem rfF_t {t h : V} : List.lookup ("taken" : Str) (rfF t h) = some t := by kernel_rfl
theorem rfF_h {t h : V} : List.lookup ("home" : Str) (rfF t h) = some h := by kernel_rfl
theorem rf_p1 {t : V} : fput [] "taken" t = ([("taken", t)] : List (Str × V)) := by kernel_rfl
theorem rf_p2 {t h : V} : fput [("taken", t)] "home" h = rfF t h := by kernel_rfl
theorem hA_t : attrHas 278 "taken" = true := by kernel_rfl
theorem hA_h : attrHas 278 "home" = true := by kernel_rfl
inductive Occs (H : AH) : List V → List Occ → Prop where
  | nil : Occs H [] []
  | cons {v o vs os} : IsOcc H v o → Occs H vs os → Occs H (v :: vs) (o :: os)
theorem Occs.append {H : AH} : ∀ {vs os us ps}, Occs H vs os → Occs H us ps → Occs H (vs ++ us) (os ++ ps) := by
  intro _ _ us ps zz y
  induction zz with
  | nil => exact y
  | cons a _ ih => exact .cons a ih
structure RFil (H : AH) (a d t h : Addr) (F : Addr → Prop) (T : Int → List V) (O : Int → List Occ) (hm : IM) (N : Nat) : Prop where
  at' : H a = some (.inst 278 d (rfF (.ref t) (.ref h)))
  ne : t ≠ h
  fa : F a
  fd : F d
  ft : F t
  fh : F h
  md : MD H t F T N
  home : IsD H h hm N
  occ : ∀ k, Occs H (T k) (O k)
inductive RFile (H : AH) (a : Addr) (F : Addr → Prop) (O : Int → List Occ) (hm : IM) (N : Nat) : Prop
  | of : ∀ d t h T, (RFil H a d t h F T O hm N) → RFile H a F O hm N
theorem IsOcc.keep {H H' : AH} {v o} (x : IsOcc H v o) (k : ∀ b C d fs, H b = some (.inst C d fs) → H' b = some (.inst C d fs)) : IsOcc H' v o := by
  obtain ⟨a, d, e, q⟩ := x
  exact ⟨a, d, e, k _ _ _ _ q⟩
theorem Occs.keep {H H' : AH} (k : ∀ b C d fs, H b = some (.inst C d fs) → H' b = some (.inst C d fs)) : ∀ {vs os}, Occs H vs os → Occs H' vs os
  | _, _, .nil => .nil
  | _, _, .cons a b => .cons (a.keep k) (Occs.keep k b)
theorem RFil.keep {H H' a d t h F T O hm N} (R : RFil H a d t h F T O hm N) (k : ∀ b C d fs, H b = some (.inst C d fs) → H' b = some (.inst C d fs)) (e2 : ∀ b o, H b = some o → F b → H' b = some o) : RFil H' a d t h F T O hm N :=
  ⟨k _ _ _ _ R.at', R.ne, R.fa, R.fd, R.ft, R.fh, R.md.keep (fun o e => e2 _ o e R.ft) e2, R.home.keep (fun o e => e2 _ o e R.fh), fun z => (R.occ z).keep k⟩
theorem RFile.keep {H H' a F O hm N} (R : RFile H a F O hm N) (k : ∀ b C d fs, H b = some (.inst C d fs) → H' b = some (.inst C d fs)) (e2 : ∀ b o, H b = some o → F b → H' b = some o) : RFile H' a F O hm N := by
  obtain ⟨d, t, h, T, r⟩ := R
  exact ⟨d, t, h, T, r.keep k e2⟩
theorem RFile.le {H H' a F O hm N} (R : RFile H a F O hm N) (l : Le H H') : RFile H' a F O hm N := R.keep (fun _ _ _ _ e => l _ _ e) (fun _ _ e _ => l _ _ e)
noncomputable def KI (H H' : AH) : Prop := ∀ b C d fs, H b = some (.inst C d fs) → H' b = some (.inst C d fs)
theorem KI.trans {H H' H'' : AH} (x : KI H H') (y : KI H' H'') : KI H H'' := fun b C d fs e => y b C d fs (x b C d fs e)
theorem KI.refl (H : AH) : KI H H := fun _ _ _ _ e => e
theorem KI.put {H : AH} {a : Addr} {o ob : AO} (h : H a = some o) (hi : ∀ C d fs, o ≠ .inst C d fs) : KI H (H.set a ob) := fun b C d fs e => by
  rw [AH.set_ne]
  · exact e
  · intro z; rw [z, h] at e; exact hi _ _ _ (Option.some.inj e)
theorem KI.le {H H' : AH} (l : Le H H') : KI H H' := fun _ _ _ _ e => l _ _ e
noncomputable def freeL (ps : List Occ) (o : Occ) : Bool := !ps.any (fun p => o.over p)
inductive Sp254 (xs : List V) (H : AH) (Q : V → AH → Prop) : Prop
  | of : ∀ a F O hm N k v o, (xs = [.ref a, .int k, v]) → (RFile H a F O hm N) → (N ≤ 900000) → (IsOcc H v o) → (∀ H' F', RFile H' a F' (updM O k (O k ++ [o])) hm (N + 1) → EvoF F F' H H' → KI H H' → Q .none H') → Sp254 xs H Q
noncomputable abbrev sp254 : List V → Wp V := Sp254
inductive Sp261 (xs : List V) (H : AH) (Q : V → AH → Prop) : Prop
  | of : ∀ a F O hm N k v o, (xs = [.ref a, .int k, v]) → (RFile H a F O hm N) → (IsOcc H v o) → (Q (.bool (freeL (O k) o)) H) → Sp261 xs H Q
noncomputable abbrev sp261 : List V → Wp V := Sp261
noncomputable def wb254 : Ls → Wp Fl := (zB3 (zG1 (zD2 zE1 (zD2 isDict (wOne (zB1 0) (zJ3 (Str.ofString "taken"))) wSetD (zA4 (zB1 1) (zA4 (zF5 zB5) zB5))) zD1 (zA4 (zB1 2) zB5))) zB6)
theorem wb254_ap {l : Ls} {H : AH} {Q : Fl → AH → Prop} : wb254 l H Q = (zB3 (zG1 (zD2 zE1 (zD2 isDict (wOne (zB1 0) (zJ3 (Str.ofString "taken"))) wSetD (zA4 (zB1 1) (zA4 (zF5 zB5) zB5))) zD1 (zA4 (zB1 2) zB5))) zB6) l H Q := rfl
noncomputable def lb261_1 : Ls → Wp Fl := (zB3 (zG3 (zB4 (wMeth 217 (zB1 2) sp214 (zA4 (zB1 3) zB5))) (zB3 (wRet (zA5 (V.bool false))) zB6) zB6) zB6)
noncomputable def wb261 : Ls → Wp Fl := (zB3 (wFor (zD2 isDict (wOne (zB1 0) (zJ3 (Str.ofString "taken"))) wGet (zA4 (zB1 1) (zA4 (zF5 zB5) zB5))) (zG2 3) lb261_1) (zB3 (wRet (zA5 (V.bool true))) zB6))
theorem lb261_1_ap {l : Ls} {H : AH} {Q : Fl → AH → Prop} : lb261_1 l H Q = (zB3 (zG3 (zB4 (wMeth 217 (zB1 2) sp214 (zA4 (zB1 3) zB5))) (zB3 (wRet (zA5 (V.bool false))) zB6) zB6) zB6) l H Q := rfl
theorem wb261_ap {l : Ls} {H : AH} {Q : Fl → AH → Prop} : wb261 l H Q = (zB3 (wFor (zD2 isDict (wOne (zB1 0) (zJ3 (Str.ofString "taken"))) wGet (zA4 (zB1 1) (zA4 (zF5 zB5) zB5))) (zG2 3) lb261_1) (zB3 (wRet (zA5 (V.bool true))) zB6)) l H Q := rfl
theorem isocc_ref {H v o} (h : IsOcc H v o) : noBi v = true := by obtain ⟨a, d, rfl, _⟩ := h; rfl
theorem RFil.ki {H a d t h F T O hm N} (R : RFil H a d t h F T O hm N) {H' : AH} (kp : ∀ b o, H b = some o → b ≠ t → (∀ xs, o ≠ .list xs) ∨ ¬ F b → H' b = some o) : KI H H' := fun b C d fs e => by
  obtain ⟨od, hod, h1, h2, h3⟩ := R.md.dict
  exact kp b _ e (fun z => by rw [z, hod] at e; exact h2 _ _ _ (Option.some.inj e)) (.inl (by intro _ q; injection q))
theorem RFil.occupy {H a d t h F T O hm N} (R : RFil H a d t h F T O hm N) {H' : AH} {F' : Addr → Prop} {k v o} (ho : IsOcc H v o) (md : MD H' t F' (updM T k (T k ++ [v])) (N + 1)) (kp : ∀ b o, H b = some o → b ≠ t → (∀ xs, o ≠ .list xs) ∨ ¬ F b → H' b = some o)
    (sub : ∀ b, F b → F' b) : RFil H' a d t h F' (updM T k (T k ++ [v])) (updM O k (O k ++ [o])) hm (N + 1) := by
  refine zC5 fun _ hk => ?_
  obtain ⟨od, hod, h1, h2, h3⟩ := R.md.dict
  have kI : ∀ b C d fs, H b = some (.inst C d fs) → H' b = some (.inst C d fs) := fun b C d fs e => kp b _ e (fun z => by rw [z, hod] at e; exact h2 _ _ _ (Option.some.inj e)) (.inl (by intro _ q; injection q))
  refine hk ?_
  refine ⟨kI _ _ _ _ R.at', R.ne, sub _ R.fa, sub _ R.fd, sub _ R.ft, sub _ R.fh, md, (R.home.mono1).keep (fun o e => kp _ o e R.ne.symm (.inl fun xs z => ?_)), fun z => ?_⟩
  · obtain ⟨es, _, _, h3⟩ := R.home
    rcases h3 with ⟨ep, h3⟩ | ⟨_, ep, h3⟩ <;> rw [h3] at e <;> rw [← Option.some.inj e] at z <;> injection z
  · unfold updM
    by_cases e : z = k
    · subst e
      rw [if_pos rfl, if_pos rfl]
      exact ((R.occ z).keep kI).append (.cons (ho.keep kI) .nil)
    · rw [if_neg e, if_neg e]; exact (R.occ z).keep kI
theorem free_loop {H : AH} {a la : Addr} {k : Int} {v : V} {o : Occ} (src : Src) (hst : Still H src) (hv : IsOcc H v o) (K : Fl → AH → Prop) : ∀ (vs : List V) (ps : List Occ) (x3 : Option V), Occs H vs ps →
    (freeL ps o = false → K (.ret (.bool false)) H) → (freeL ps o = true → ∀ l, K (.next l) H) → wLoop src (zG2 3) lb261_1 vs [some (.ref a), some (.int k), some v, x3] H K := by
  intro vs ps x3 zz
  induction zz generalizing x3 with
  | nil => exact fun _ h2 => h2 rfl _
  | @cons w p vs ps hw hs ih =>
    intro h1 h2
    have hv' := hv
    obtain ⟨b, d, rfl, hb⟩ := hv
    simp only [lp_cons]
    simp! only [↓lb261_1_ap, ↓m1_ hb]
    refine ⟨.ref b, w, o, p, rfl, hv', hw, ?_⟩
    cases e : o.over p with
    | true => exact h1 (by simp [freeL, e])
    | false =>
      refine ⟨hst, ih _ (fun h => h1 ?_) (fun h => h2 ?_)⟩
      · simp only [freeL, List.any_cons, e, Bool.false_or] at h ⊢; exact h
      · simp only [freeL, List.any_cons, e, Bool.false_or] at h ⊢; exact h
section
variable {c : Cx} (Fn : Fns c.K)
include Fn
theorem rf254 : RF c 1 254 sp254 := by
  refine rf_of (ps := (["self", "register", "occupation"] : List Str)) (rest := ([] : List Str)) Fn.f254 (zA1 (zG6 (zD7 (zD7 (zF3 (zA3 0) zF2) rb_setd (zA2 (zA3 1) (zA2 (zE2 zA7) zA7)) (gm_dict F.slot_dict_setdefault) _) zF7 (zA2 (zA3 2) zA7) (gm_list F.slot_list_append) _)) zA6) ?_ (fun pm cd => len3 (fun _ _ _ => by rfl))
  rintro xs H Q wf ⟨a, F, O, hm, N, k, v, o, rfl, ⟨d, t, h, T, R⟩, hN, ho, q⟩
  refine ⟨rfl, ?_⟩
  show wBody _ [some _, some _, some _] _ _
  simp! only [↓wb254_ap, ↓m1_ R.at', ↓at_ R.at' rfF_t rfl]
  refine ⟨R.md.ok, by lia, fun n hn => ?_⟩
  refine R.md.add wf hN hn fun H' F' md kp sub new wf' => ?_
  refine zB7 wf' (q H' F' ⟨d, t, h, _, R.occupy ho md kp sub⟩ ⟨fun b o e nf => kp b o e (fun z => nf (by rw [z]; exact R.ft)) (.inr nf), new, wf'⟩ (R.ki kp))
theorem rf261 : RF c 2 261 sp261 := by
  have h214 := (rf214 Fn : RF c 1 214 sp214)
  have hnd : ((["self", "register", "occupation"] : List Str) ++ (["other"] : List Str)).Nodup := by decide
  refine rf_of (ps := (["self", "register", "occupation"] : List Str)) (rest := (["other"] : List Str)) Fn.f261 (zA1 (rs_for (zD7 (zF3 (zA3 0) zF2) rb_get (zA2 (zA3 1) (zA2 (zE2 zA7) zA7)) (gm_dict F.slot_dict_get) _) (tg_name 3) (zA1 (zE5 (rt_of (zJ1 (f := 214) 217 (zA3 2) h214 (zA2 (zA3 3) zA7) _)) (zA1 (zD4 re_bool) zA6) zA6) zA6)) (zA1 (zD4 re_bool) zA6)) ?_ (fun pm cd => len3 (fun _ _ _ => by rfl))
  rintro xs H Q wf ⟨a, F, O, hm, N, k, v, o, rfl, ⟨d, t, h, T, R⟩, ho, q⟩
  refine ⟨rfl, ?_⟩
  show wBody _ [some _, some _, some _, none] _ _
  simp! only [↓wb261_ap, ↓wFor, ↓m1_ R.at', ↓at_ R.at' rfF_t rfl]
  refine ⟨R.md.ok, by lia, fun n hn => R.md.get hn fun la hla hl => ?_⟩
  have le : Le H (H.set n (.list [])) := (Le.refl H).set hn
  have kI : ∀ b C d fs, H b = some (.inst C d fs) → (H.set n (.list [])) b = some (.inst C d fs) := fun b C d fs e => le _ _ e
  refine ⟨.list la (T k), .list (hla), trivial, ?_⟩
  refine free_loop (la := la) (.list la (T k)) hla (ho.keep kI) _ (T k) (O k) none ((R.occ k).keep kI) (fun e => ?_) (fun e l => ?_)
  · exact ret_le le wf (by rw [e] at q; exact q)
  · exact ret_le le wf (by rw [e] at q; exact q)
end
end
section
inductive Sp247 (xs : List V) (H : AH) (Q : V → AH → Prop) : Prop
  | of : ∀ a d, (xs = [.ref a]) → (H a = some (.inst 278 d [])) → (H d = some (.own a)) → (∀ H' F', RFile H' a F' (fun _ => []) (fun _ => none) 0 → EvoF (fun b => b = a ∨ b = d) F' H H' → Q .none H') → Sp247 xs H Q
noncomputable abbrev sp247 : List V → Wp V := Sp247
inductive Sp268 (xs : List V) (H : AH) (Q : V → AH → Prop) : Prop
  | of : ∀ (a : Addr) (F : Addr → Prop) (O : Int → List Occ) (hm : IM) (N : Nat) (B : Int) (v : V) (o : Occ) (lo : Addr) (ops : List Op), (xs = [.ref a, v, .ref lo]) → (RFile H a F O hm N) → (IsOcc H v o) → (H lo = some (.list (ops.map Op.v))) → ((∀ p ∈ ops, (∃ n, p = .t n) ∨ p.num ≤ B)) → ((∀ n r, hm n = some r → r ≤ B)) → (0 ≤ B) → (∀ r : Int, r ≤ B → (r = 0 ∨ freeL (O r) o = true) → Q (.int r) H) → Sp268 xs H Q
noncomputable abbrev sp268 : List V → Wp V := Sp268
inductive Sp275 (xs : List V) (H : AH) (Q : V → AH → Prop) : Prop
  | of : ∀ (a : Addr) (F : Addr → Prop) (O : Int → List Occ) (hm : IM) (N : Nat) (B : Int) (v : V) (o : Occ) (lo : Addr) (ops : List Op), (xs = [.ref a, v, .ref lo]) → (RFile H a F O hm N) → (N ≤ 800000) → (IsOcc H v o) → (H lo = some (.list (ops.map Op.v))) → ((∀ p ∈ ops, (∃ n, p = .t n) ∨ p.num ≤ B)) → ((∀ n r, hm n = some r → r ≤ B)) → (0 ≤ B) → ((∀ r, B < r → O r = [])) → (∀ (r : Int) H' F', r ≤ B + 1 → freeL (O r) o = true → RFile H' a F' (updM O r (O r ++ [o])) (upd hm o.num r) (N + 2) → EvoF F F' H H' → KI H H' → Q .none H') → Sp275 xs H Q
noncomputable abbrev sp275 : List V → Wp V := Sp275
noncomputable def wb247 : Ls → Wp Fl := (zB3 (wAsgA wDict (zB1 0) (Str.ofString "taken")) (zB3 (wAsgA wDict (zB1 0) (Str.ofString "home")) zB6))
theorem wb247_ap {l : Ls} {H : AH} {Q : Fl → AH → Prop} : wb247 l H Q = (zB3 (wAsgA wDict (zB1 0) (Str.ofString "taken")) (zB3 (wAsgA wDict (zB1 0) (Str.ofString "home")) zB6)) l H Q := rfl
noncomputable def lb268_1 : Ls → Wp Fl := (zB3 (zG7 (zC3 (zB1 3) (zA5 (V.int 1)) zD5) 4) (zB3 (zG3 (zB4 (zC3 (zC3 (zB1 3) (zA5 (V.int 0)) zD5) (zA5 (V.str (Str.ofString "t"))) wEq)) (zB3 (zG7 (zD2 isDict (wOne (zB1 0) (zJ3 (Str.ofString "home"))) wGet (zA4 (zC3 (zB1 3) (zA5 (V.int 1)) zD5) (zA4 (zA5 (V.int 0)) zB5))) 4) zB6) zB6) (zB3 (zG3 (wAndB (zB4 (zC3 (zB1 4) (zA5 (V.int 0)) (wInt fun i j => V.bool (decide (j < i))))) (wAndB (zB4 (wMeth 278 (zB1 0) sp261 (zA4 (zB1 4) (zA4 (zB1 1) zB5)))) (wTrue true))) (zB3 (wRet (zB1 4)) zB6) zB6) zB6)))
noncomputable def wb268 : Ls → Wp Fl := (zB3 (wFor (zB1 2) (zG2 3) lb268_1) (zB3 (wRet (zA5 (V.int 0))) zB6))
theorem lb268_1_ap {l : Ls} {H : AH} {Q : Fl → AH → Prop} : lb268_1 l H Q = (zB3 (zG7 (zC3 (zB1 3) (zA5 (V.int 1)) zD5) 4) (zB3 (zG3 (zB4 (zC3 (zC3 (zB1 3) (zA5 (V.int 0)) zD5) (zA5 (V.str (Str.ofString "t"))) wEq)) (zB3 (zG7 (zD2 isDict (wOne (zB1 0) (zJ3 (Str.ofString "home"))) wGet (zA4 (zC3 (zB1 3) (zA5 (V.int 1)) zD5) (zA4 (zA5 (V.int 0)) zB5))) 4) zB6) zB6) (zB3 (zG3 (wAndB (zB4 (zC3 (zB1 4) (zA5 (V.int 0)) (wInt fun i j => V.bool (decide (j < i))))) (wAndB (zB4 (wMeth 278 (zB1 0) sp261 (zA4 (zB1 4) (zA4 (zB1 1) zB5)))) (wTrue true))) (zB3 (wRet (zB1 4)) zB6) zB6) zB6))) l H Q := rfl
theorem wb268_ap {l : Ls} {H : AH} {Q : Fl → AH → Prop} : wb268 l H Q = (zB3 (wFor (zB1 2) (zG2 3) lb268_1) (zB3 (wRet (zA5 (V.int 0))) zB6)) l H Q := rfl
noncomputable def lt275_1 : Ls → Wp Bool := (wNotB (zB4 (wMeth 278 (zB1 0) sp261 (zA4 (zB1 3) (zA4 (zB1 1) zB5)))))
noncomputable def lb275_1 : Ls → Wp Fl := (zB3 (wAug 3 (zA5 (V.int 1))) zB6)
noncomputable def wb275 : Ls → Wp Fl := (zB3 (zG7 (wMeth 278 (zB1 0) sp268 (zA4 (zB1 1) (zA4 (zB1 2) zB5))) 3) (zB3 (zG3 (zB4 (zC3 (zB1 3) (zA5 (V.int 0)) wEq)) (zB3 (zG7 (zA5 (V.int 1)) 3) (zB3 (wWhile lt275_1 lb275_1) zB6)) zB6) (zB3 (zG1 (wMeth 278 (zB1 0) sp254 (zA4 (zB1 3) (zA4 (zB1 1) zB5)))) (zB3 (wAsgI (zB1 3) (wOne (zB1 0) (zJ3 (Str.ofString "home"))) (wOne (zB1 1) (zJ3 (Str.ofString "number")))) zB6))))
theorem lt275_1_ap {l : Ls} {H : AH} {Q : Bool → AH → Prop} : lt275_1 l H Q = (wNotB (zB4 (wMeth 278 (zB1 0) sp261 (zA4 (zB1 3) (zA4 (zB1 1) zB5))))) l H Q := rfl
theorem lb275_1_ap {l : Ls} {H : AH} {Q : Fl → AH → Prop} : lb275_1 l H Q = (zB3 (wAug 3 (zA5 (V.int 1))) zB6) l H Q := rfl
theorem wb275_ap {l : Ls} {H : AH} {Q : Fl → AH → Prop} : wb275 l H Q = (zB3 (zG7 (wMeth 278 (zB1 0) sp268 (zA4 (zB1 1) (zA4 (zB1 2) zB5))) 3) (zB3 (zG3 (zB4 (zC3 (zB1 3) (zA5 (V.int 0)) wEq)) (zB3 (zG7 (zA5 (V.int 1)) 3) (zB3 (wWhile lt275_1 lb275_1) zB6)) zB6) (zB3 (zG1 (wMeth 278 (zB1 0) sp254 (zA4 (zB1 3) (zA4 (zB1 1) zB5)))) (zB3 (wAsgI (zB1 3) (wOne (zB1 0) (zJ3 (Str.ofString "home"))) (wOne (zB1 1) (zJ3 (Str.ofString "number")))) zB6)))) l H Q := rfl
theorem wished_loop {H : AH} {a lo : Addr} {F : Addr → Prop} {O : Int → List Occ} {hm : IM} {N : Nat} {B : Int} {v : V} {o : Occ} (src : Src) (hst : Still H src) (RF' : RFile H a F O hm N) (hv : IsOcc H v o) (hB : ∀ n r, hm n = some r → r ≤ B) (hB0 : 0 ≤ B)
    (K : Fl → AH → Prop) (kR : ∀ r : Int, r ≤ B → freeL (O r) o = true → K (.ret (.int r)) H) (kN : ∀ l, K (.next l) H) :
    ∀ (ops : List Op) (x3 x4 : Option V), (∀ p ∈ ops, (∃ n, p = .t n) ∨ p.num ≤ B) → wLoop src (zG2 3) lb268_1 (ops.map Op.v) [some (.ref a), some v, some (.ref lo), x3, x4] H K := by
  intro zz
  induction zz with
  | nil =>
    intro x3 x4 h
    exact kN _
  | cons p ops ih =>
    intro x3 x4 h
    have RF'' := RF'
    obtain ⟨d, t, hh, T, R⟩ := RF''
    simp only [List.map_cons, lp_cons]
    have tail : ∀ (g : Int), g ≤ B → zB3 (zG3 (wAndB (zB4 (zC3 (zB1 4) (zA5 (V.int 0)) (wInt fun i j => V.bool (decide (j < i))))) (wAndB (zB4 (wMeth 278 (zB1 0) sp261 (zA4 (zB1 4) (zA4 (zB1 1) zB5)))) (wTrue true))) (zB3 (wRet (zB1 4)) zB6) zB6) zB6 [some (.ref a), some v, some (.ref lo), some p.v, some (.int g)] H (fun f H'' => match f with
        | .next l'' => Still H'' src ∧ wLoop src (zG2 3) lb268_1 (ops.map Op.v) l'' H'' K
        | .cont l'' => Still H'' src ∧ wLoop src (zG2 3) lb268_1 (ops.map Op.v) l'' H'' K
        | .brk l'' => K (.next l'') H''
        | .ret v => K (.ret v) H'') := fun g hg => by
      by_cases h0 : 0 < g
      · simp! only [↓gt_t h0, ↓m1_ R.at']
        refine ⟨a, F, O, hm, N, g, v, o, rfl, RF', hv, ?_⟩
        cases e : freeL (O g) o with
        | true => exact kR g hg e
        | false => exact ⟨hst, ih _ _ fun p hp => h p (.tail _ hp)⟩
      · simp! only [↓gt_f h0]
        exact ⟨hst, ih _ _ fun p hp => h p (.tail _ hp)⟩
    cases p with
    | t n =>
      dsimp! only [↓it_op, ↓zG5, ↓lb268_1_ap, ↓m1_ R.at', ↓at_ R.at' rfF_h rfl]
      refine ⟨R.home.ok, R.home.get ?_⟩
      refine tail _ ?_
      cases e : hm n with
      | none => exact hB0
      | some r => exact hB n r e
    | a n =>
      dsimp! only [↓it_op, ↓zG5, ↓lb268_1_ap]
      refine tail _ ?_
      rcases h (.a n) (.head _) with ⟨m, e⟩ | e
      · injection e
      · exact e
    | y n =>
      dsimp! only [↓it_op, ↓zG5, ↓lb268_1_ap]
      refine tail _ ?_
      rcases h (.y n) (.head _) with ⟨m, e⟩ | e
      · injection e
      · exact e
    | x n =>
      dsimp! only [↓it_op, ↓zG5, ↓lb268_1_ap]
      refine tail _ ?_
      rcases h (.x n) (.head _) with ⟨m, e⟩ | e
      · injection e
      · exact e
theorem place_loop {H : AH} {a : Addr} {F : Addr → Prop} {O : Int → List Occ} {hm : IM} {N : Nat} {B : Int} {v x2 : V} {o : Occ} (RF' : RFile H a F O hm N) (hv : IsOcc H v o) (hE : ∀ r, B < r → O r = [])
    (K : Fl → AH → Prop) (kN : ∀ r : Int, r ≤ B + 1 → freeL (O r) o = true → K (.next [some (.ref a), some v, some x2, some (.int r)]) H) :
    ∀ (m : Nat) (r : Int), B + 1 - r = m → wWhileN lt275_1 lb275_1 (m + 1) [some (.ref a), some v, some x2, some (.int r)] H K := by
  intro m
  obtain ⟨d, t, hh, T, R⟩ := RF'
  induction m with
  | zero =>
    intro r e
    simp only [wh_succ]
    simp! only [↓lt275_1_ap, ↓m1_ R.at']
    refine ⟨a, F, O, hm, N, r, v, o, rfl, ⟨_, _, _, _, R⟩, hv, ?_⟩
    have : freeL (O r) o = true := by rw [hE r (by lia)]; rfl
    rw [this]
    exact kN r (by lia) this
  | succ m ih =>
    intro r e
    simp only [wh_succ]
    simp! only [↓lt275_1_ap, ↓m1_ R.at']
    refine ⟨a, F, O, hm, N, r, v, o, rfl, ⟨_, _, _, _, R⟩, hv, ?_⟩
    cases hf : freeL (O r) o with
    | true => exact kN r (by lia) hf
    | false =>
      exact ih (r + 1) (by lia)
section
variable {c : Cx} (Fn : Fns c.K)
include Fn
theorem rf247 : RF c 1 247 sp247 := by
  refine rf_of (ps := (["self"] : List Str)) (rest := ([] : List Str)) Fn.f247 (zA1 (rs_asgA re_dict (zA3 0)) (zA1 (rs_asgA re_dict (zA3 0)) zA6)) ?_ (fun pm cd => len1 (fun _ => by rfl))
  rintro xs H Q wf ⟨a, d, rfl, ha, hd, q⟩
  refine ⟨rfl, ?_⟩
  show wBody _ [some _] _ _
  intro t ht
  show wPutA "taken" (.ref a) (.ref t) _ _
  rw [put_new ha ht hA_t, rf_p1]
  intro h hh
  have na := (AH.ne_of ha ht).symm
  have O1 : ((H.set t (.dictE 0)).set a (.inst 278 d [("taken", .ref t)])) a = some (.inst 278 d [("taken", .ref t)]) := AH.set_self ..
  show wPutA "home" (.ref a) (.ref h) _ _
  rw [put_new O1 hh hA_h, rf_p2]
  have nh := (AH.ne_of O1 hh).symm
  have ht1 : ((H.set t (.dictE 0)).set a (.inst 278 d [("taken", .ref t)])) t = some (.dictE 0) := by rw [AH.set_ne _ _ na, AH.set_self]
  have nth := AH.ne_of ht1 hh
  have wf1 : WF ((H.set t (.dictE 0)).set a (.inst 278 d [("taken", .ref t)])) := WF.own (wf.new ht) (by rw [AH.set_ne _ _ na.symm]; exact ha)
  have wf2 : WF ((((H.set t (.dictE 0)).set a (.inst 278 d [("taken", .ref t)])).set h (.dictE 0)).set a (.inst 278 d (rfF (.ref t) (.ref h)))) := WF.own (wf1.new hh) (by rw [AH.set_ne _ _ nh.symm]; exact O1)
  have hh0 : H h = none := by rw [AH.set_ne _ _ nh, AH.set_ne _ _ nth.symm] at hh; exact hh
  have kp : Kp a H ((((H.set t (.dictE 0)).set a (.inst 278 d [("taken", .ref t)])).set h (.dictE 0)).set a (.inst 278 d (rfF (.ref t) (.ref h)))) := (Kp.new ht).trans (Kp.new hh)
  refine zB7 wf2 (q _ (fun b => b = a ∨ b = d ∨ b = t ∨ b = h) ⟨d, t, h, fun _ => [], ⟨AH.set_self .., nth, .inl rfl, .inr (.inl rfl), .inr (.inr (.inl rfl)), .inr (.inr (.inr rfl)), MD.empty (ep := 0) ?_, IsD.empty (ep := 0) ?_, fun _ => .nil⟩⟩ ⟨fun b o e nf => kp b o (fun z => nf (.inl z)) e, fun b hb => ?_, wf2⟩)
  · rw [AH.set_ne _ _ na, AH.set_ne _ _ nth]; exact ht1
  · rw [AH.set_ne _ _ nh, AH.set_self]
  · rcases hb with h | h | h | h
    · exact .inl (.inl h)
    · exact .inl (.inr h)
    · exact .inr (by rw [h]; exact ht)
    · exact .inr (by rw [h]; exact hh0)
theorem rf268 : RF c 3 268 sp268 := by
  have h261 := (rf261 Fn : RF c 2 261 sp261)
  have hnd : ((["self", "occupation", "operands"] : List Str) ++ (["operand", "register"] : List Str)).Nodup := by decide
  refine rf_of (ps := (["self", "occupation", "operands"] : List Str)) (rest := (["operand", "register"] : List Str)) Fn.f268 (zA1 (rs_for (zA3 2) (tg_name 3) (zA1 (zD6 4 (zC2 (zA3 3) zB2 zC1)) (zA1 (zE5 (zC4 (zC2 (zA3 3) zB2 zC1) zC6 zE4) (zA1 (zD6 4 (zD7 (zF3 (zA3 0) zF2) rb_get (zA2 (zC2 (zA3 3) zB2 zC1) (zA2 zB2 zA7)) (gm_dict F.slot_dict_get) _)) zA6) zA6) (zA1 (zE5 (zH4 (rts_and (zC4 (zA3 4) zB2 rv_gt) (rts_and (rt_of (zJ1 (f := 261) 278 (zA3 0) h261 (zA2 (zA3 4) (zA2 (zA3 1) zA7)) _)) rts_nilA))) (zA1 (zD4 (zA3 4)) zA6) zA6) zA6)))) (zA1 (zD4 zB2) zA6)) ?_ (fun pm cd => len3 (fun _ _ _ => by rfl))
  rintro xs H Q wf ⟨a, F, O, hm, N, B, v, o, lo, ops, rfl, R, hv, hlo, h1, h2, h3, q⟩
  refine ⟨rfl, ?_⟩
  refine ⟨.list lo (ops.map Op.v), .list (hlo), trivial, ?_⟩
  refine wished_loop (lo := lo) (.list lo (ops.map Op.v)) hlo R hv h2 h3 _ (fun r hr hf => ?_) (fun l => ?_) ops none none h1
  · exact zB7 wf (q r hr (.inr hf))
  · exact zB7 wf (q 0 h3 (.inl rfl))
theorem rf275 : RF c 4 275 sp275 := by
  have h268 := (rf268 Fn : RF c 3 268 sp268)
  have h254 := ((rf254 Fn).mono (by lia : 1 ≤ 3) : RF c 3 254 sp254)
  have h261 := ((rf261 Fn).mono (by lia : 2 ≤ 3) : RF c 3 261 sp261)
  have hnd : ((["self", "occupation", "operands"] : List Str) ++ (["register"] : List Str)).Nodup := by decide
  refine rf_of (ps := (["self", "occupation", "operands"] : List Str)) (rest := (["register"] : List Str)) Fn.f275 (zA1 (zD6 3 (zJ1 (f := 268) 278 (zA3 0) h268 (zA2 (zA3 1) (zA2 (zA3 2) zA7)) _)) (zA1 (zE5 (zC4 (zA3 3) zB2 zE4) (zA1 (zD6 3 zB2) (zA1 (rs_while (rt_not (rt_of (zJ1 (f := 261) 278 (zA3 0) h261 (zA2 (zA3 3) (zA2 (zA3 1) zA7)) _))) (zA1 (rs_aug 3 zB2) zA6)) zA6)) zA6) (zA1 (zG6 (zJ1 (f := 254) 278 (zA3 0) h254 (zA2 (zA3 3) (zA2 (zA3 1) zA7)) _)) (zA1 (rs_asgI (zA3 3) (zF3 (zA3 0) zF2) (zF3 (zA3 1) zF2)) zA6)))) ?_ (fun pm cd => len3 (fun _ _ _ => by rfl))
  rintro xs H Q wf ⟨a, F, O, hm, N, B, v, o, lo, ops, rfl, RR, hN, hv, hlo, h1, h2, h3, hE, q⟩
  refine ⟨rfl, ?_⟩
  show wBody _ [some _, some _, some _, none] _ _
  have RR' := RR
  obtain ⟨d, t, hh, T, R⟩ := RR
  simp! only [↓wb275_ap, ↓m1_ R.at']
  refine ⟨a, F, O, hm, N, B, v, o, lo, ops, rfl, RR', hv, hlo, h1, h2, h3, fun r hr hf => ?_⟩
  have fin : ∀ r : Int, r ≤ B + 1 → freeL (O r) o = true → zB3 (zG1 (wMeth 278 (zB1 0) sp254 (zA4 (zB1 3) (zA4 (zB1 1) zB5)))) (zB3 (wAsgI (zB1 3) (wOne (zB1 0) (zJ3 (Str.ofString "home"))) (wOne (zB1 1) (zJ3 (Str.ofString "number")))) zB6) [some (.ref a), some v, some (.ref lo), some (.int r)] H (fun f H' => match f with
        | .ret x => ∃ H'', Sub H'' H' ∧ Q x H''
        | .next _ => ∃ H'', Sub H'' H' ∧ Q .none H''
        | _ => False) := by
    intro r hr hf
    simp! only [↓m1_ R.at']
    refine ⟨a, F, O, hm, N, r, v, o, rfl, RR', by lia, hv, fun H1 F1 R1 E1 I1 => ?_⟩
    obtain ⟨d1, t1, hh1, T1, R1⟩ := R1
    obtain ⟨b, db, rfl, hb⟩ := hv
    have hb1 := I1 _ _ _ _ hb
    simp! only [↓m1_ R1.at', ↓at_ R1.at' rfF_h rfl, ↓at_ hb1 occF_number rfl]
    refine R1.home.put (by lia) fun oo hi hw h => ?_
    refine zC5 fun _ hk => ?_
    obtain ⟨o', ho', hi', hw'⟩ := R1.home.obj
    have hnl : ∀ xs, o' ≠ .list xs := fun xs z => by
      obtain ⟨es, _, _, h3⟩ := R1.home
      rcases h3 with ⟨ep, h3⟩ | ⟨_, ep, h3⟩ <;> rw [h3] at ho' <;> rw [← Option.some.inj ho'] at z <;> injection z
    have I2 : KI H1 (H1.set hh1 oo) := KI.put ho' hi'
    have wf2 : WF (H1.set hh1 oo) := E1.wf.upd ho' hi hw'
    have E2 : EvoF F1 F1 H1 (H1.set hh1 oo) := ⟨fun b o e nf => by rw [AH.set_ne _ _ (fun z => nf (by rw [z]; exact R1.fh))]; exact e, fun _ h => .inl h, wf2⟩
    have md2 : MD (H1.set hh1 oo) t1 F1 T1 (N + 1) := by
      refine zC5 fun _ hk => ?_
      obtain ⟨es, m0, m1, m2, m3, m4⟩ := R1.md
      refine hk ?_
      refine ⟨es, m0, ?_, m2, fun k v e => let ⟨la, a1, b1, c1, d1⟩ := m3 k v e; ⟨la, a1, b1, ?_, d1⟩, m4⟩
      · rw [AH.set_ne _ _ R1.ne]; exact m1
      · rw [AH.set_ne]
        · exact c1
        · intro z; rw [z, ho'] at c1; exact hnl _ (Option.some.inj c1)
    refine hk ?_
    refine zB7 wf2 (q r _ F1 hr hf ⟨d1, t1, hh1, T1, ?_⟩ (E1.trans E2) (I1.trans I2))
    exact ⟨I2 _ _ _ _ R1.at', R1.ne, R1.fa, R1.fd, R1.ft, R1.fh, md2.mono (by lia), h, fun k => (R1.occ k).keep I2⟩
  by_cases e0 : r = 0
  · subst e0
    exact ⟨(B + 1 - 1).toNat + 1, place_loop (x2 := .ref lo) RR' hv hE _ (fun r hr hf => fin r hr hf) _ 1 (by lia)⟩
  · simp! only [↓eq_f e0]
    exact fin r (by lia) (hf.resolve_left e0)
end
end
section
noncomputable def zH5 (f : IM) : Op → Op
  | .t n => .x ((f n).getD 0)
  | .a n => .x n
  | o => o
noncomputable def realPt (f : IM) : Pt → Pt
  | .op o => .op (zH5 f o)
  | .num i => .num i
inductive Sp296 (xs : List V) (H : AH) (Q : V → AH → Prop) : Prop
  | of : ∀ (p : Pt) (a : Addr) (f : IM) (N : Nat), (xs = [p.v, .ref a]) → (IsD H a f N) → ((∀ n, p = .op (.t n) → ∃ r, f n = some r)) → (Q (realPt f p).v H) → Sp296 xs H Q
noncomputable abbrev sp296 : List V → Wp V := Sp296
inductive Sp310 (xs : List V) (H : AH) (Q : V → AH → Prop) : Prop
  | of : ∀ (la : Addr) (rows : List Row) (B : Int), (xs = [.ref la]) → (H la = some (.list (rows.map Row.v))) → ((∀ r ∈ rows, Row.ok r)) → ((∀ r ∈ rows, ∀ p ∈ roles r, ∀ n, p.2 = .x n → n ≤ B)) → (0 ≤ B) → (∀ m : Int, m ≤ B → Q (.int m) H) → Sp310 xs H Q
noncomputable abbrev sp310 : List V → Wp V := Sp310
structure WInv (H0 : AH) (P : Op → Prop) (t : Addr) (H : AH) (F : Addr → Prop) (M : Int → List V) (N : Nat) : Prop where
  le : Le H0 H
  wf : WF H
  md : MD H t F M N
  ht : H0 t = none
  hF : ∀ b, F b → H0 b = none
  ops : ∀ k, ∃ ops : List Op, M k = ops.map Op.v ∧ ∀ o ∈ ops, P o
inductive Sp233 (xs : List V) (H : AH) (Q : V → AH → Prop) : Prop
  | of : ∀ (la : Addr) (rows : List Row) (P : Op → Prop), (xs = [.ref la]) → (H la = some (.list (rows.map Row.v))) → ((∀ r ∈ rows, Row.ok r)) → (rows.length ≤ 1000) → ((∀ r ∈ rows, ∀ p ∈ roles r, P p.2)) → (∀ t H' F M, WInv H P t H' F M (2 * rows.length) → Q (.ref t) H') → Sp233 xs H Q
noncomputable abbrev sp233 : List V → Wp V := Sp233
noncomputable def wb296 : Ls → Wp Fl := (zB3 (zG3 (wAndB (zB4 (zD3 wIsTup (zA4 (zB1 0) (zA4 (zA5 (V.ty "tuple")) zB5)))) (wAndB (zB4 (zC3 (zD3 wLen (zA4 (zB1 0) zB5)) (zA5 (V.int 2)) wEq)) (wTrue true))) (zB3 (zG3 (zB4 (zC3 (zC3 (zB1 0) (zA5 (V.int 0)) zD5) (zA5 (V.str (Str.ofString "t"))) wEq)) (zB3 (wRet (wTup (zA4 (zA5 (V.str (Str.ofString "x"))) (zA4 (zC3 (zB1 1) (zC3 (zB1 0) (zA5 (V.int 1)) zD5) zD5) zB5)))) zB6) zB6) (zB3 (zG3 (zB4 (zC3 (zC3 (zB1 0) (zA5 (V.int 0)) zD5) (zA5 (V.str (Str.ofString "a"))) wEq)) (zB3 (wRet (wTup (zA4 (zA5 (V.str (Str.ofString "x"))) (zA4 (zC3 (zB1 0) (zA5 (V.int 1)) zD5) zB5)))) zB6) zB6) zB6)) zB6) (zB3 (wRet (zB1 0)) zB6))
theorem wb296_ap {l : Ls} {H : AH} {Q : Fl → AH → Prop} : wb296 l H Q = (zB3 (zG3 (wAndB (zB4 (zD3 wIsTup (zA4 (zB1 0) (zA4 (zA5 (V.ty "tuple")) zB5)))) (wAndB (zB4 (zC3 (zD3 wLen (zA4 (zB1 0) zB5)) (zA5 (V.int 2)) wEq)) (wTrue true))) (zB3 (zG3 (zB4 (zC3 (zC3 (zB1 0) (zA5 (V.int 0)) zD5) (zA5 (V.str (Str.ofString "t"))) wEq)) (zB3 (wRet (wTup (zA4 (zA5 (V.str (Str.ofString "x"))) (zA4 (zC3 (zB1 1) (zC3 (zB1 0) (zA5 (V.int 1)) zD5) zD5) zB5)))) zB6) zB6) (zB3 (zG3 (zB4 (zC3 (zC3 (zB1 0) (zA5 (V.int 0)) zD5) (zA5 (V.str (Str.ofString "a"))) wEq)) (zB3 (wRet (wTup (zA4 (zA5 (V.str (Str.ofString "x"))) (zA4 (zC3 (zB1 0) (zA5 (V.int 1)) zD5) zB5)))) zB6) zB6) zB6)) zB6) (zB3 (wRet (zB1 0)) zB6)) l H Q := rfl
noncomputable def lb310_1 : Ls → Wp Fl := (zB3 (zG3 (wAndB (zB4 (zC3 (zC3 (zB1 4) (zA5 (V.int 0)) zD5) (zA5 (V.str (Str.ofString "x"))) wEq)) (wAndB (zB4 (zC3 (zC3 (zB1 4) (zA5 (V.int 1)) zD5) (zB1 1) (wInt fun i j => V.bool (decide (j < i))))) (wTrue true))) (zB3 (zG7 (zC3 (zB1 4) (zA5 (V.int 1)) zD5) 1) zB6) zB6) zB6)
noncomputable def lb310_2 : Ls → Wp Fl := (zB3 (wFor (zD3 sp186 (zA4 (zB1 2) zB5)) (wSet2 3 4) lb310_1) zB6)
noncomputable def wb310 : Ls → Wp Fl := (zB3 (zG7 (zA5 (V.int 0)) 1) (zB3 (wFor (zB1 0) (zG2 2) lb310_2) (zB3 (wRet (zB1 1)) zB6)))
theorem lb310_1_ap {l : Ls} {H : AH} {Q : Fl → AH → Prop} : lb310_1 l H Q = (zB3 (zG3 (wAndB (zB4 (zC3 (zC3 (zB1 4) (zA5 (V.int 0)) zD5) (zA5 (V.str (Str.ofString "x"))) wEq)) (wAndB (zB4 (zC3 (zC3 (zB1 4) (zA5 (V.int 1)) zD5) (zB1 1) (wInt fun i j => V.bool (decide (j < i))))) (wTrue true))) (zB3 (zG7 (zC3 (zB1 4) (zA5 (V.int 1)) zD5) 1) zB6) zB6) zB6) l H Q := rfl
theorem lb310_2_ap {l : Ls} {H : AH} {Q : Fl → AH → Prop} : lb310_2 l H Q = (zB3 (wFor (zD3 sp186 (zA4 (zB1 2) zB5)) (wSet2 3 4) lb310_1) zB6) l H Q := rfl
theorem wb310_ap {l : Ls} {H : AH} {Q : Fl → AH → Prop} : wb310 l H Q = (zB3 (zG7 (zA5 (V.int 0)) 1) (zB3 (wFor (zB1 0) (zG2 2) lb310_2) (zB3 (wRet (zB1 1)) zB6))) l H Q := rfl
noncomputable def lb233_1 : Ls → Wp Fl := (zB3 (zG7 (zC3 (zB1 2) (zA5 (V.int 0)) zD5) 3) (zB3 (zG3 (zB4 (zC3 (zB1 3) (zA5 (V.str (Str.ofString "get_variable"))) wEq)) (zB3 (wAsgSw (wTup (zA4 (zC3 (zB1 2) (zA5 (V.int 1)) zD5) (zA4 (zC3 (zB1 2) (zA5 (V.int 2)) zD5) zB5))) 4 5) zB6) (zB3 (zG3 (zB4 (zC3 (zB1 3) (zA5 (V.str (Str.ofString "put_value"))) wEq)) (zB3 (wAsgSw (wTup (zA4 (zC3 (zB1 2) (zA5 (V.int 1)) zD5) (zA4 (zC3 (zB1 2) (zA5 (V.int 2)) zD5) zB5))) 5 4) zB6) (zB3 wCont zB6)) zB6)) (zB3 (zG3 (wOrB (zB4 (zC3 (zC3 (zB1 5) (zA5 (V.int 0)) zD5) (zA5 (V.str (Str.ofString "y"))) wEq)) (wOrB (zB4 (zC3 (zC3 (zB1 4) (zA5 (V.int 0)) zD5) (zA5 (V.str (Str.ofString "y"))) wEq)) (wTrue false))) (zB3 wCont zB6) zB6) (zB3 (zG3 (zB4 (zC3 (zC3 (zB1 4) (zA5 (V.int 0)) zD5) (zA5 (V.str (Str.ofString "t"))) wEq)) (zB3 (zG1 (zD2 zE1 (zD2 isDict (zB1 1) wSetD (zA4 (zC3 (zB1 4) (zA5 (V.int 1)) zD5) (zA4 (zF5 zB5) zB5))) zD1 (zA4 (zB1 5) zB5))) zB6) zB6) (zB3 (zG3 (zB4 (zC3 (zC3 (zB1 5) (zA5 (V.int 0)) zD5) (zA5 (V.str (Str.ofString "t"))) wEq)) (zB3 (zG1 (zD2 zE1 (zD2 isDict (zB1 1) wSetD (zA4 (zC3 (zB1 5) (zA5 (V.int 1)) zD5) (zA4 (zF5 zB5) zB5))) zD1 (zA4 (zB1 4) zB5))) zB6) zB6) zB6)))))
noncomputable def wb233 : Ls → Wp Fl := (zB3 (zG7 wDict 1) (zB3 (wFor (zB1 0) (zG2 2) lb233_1) (zB3 (wRet (zB1 1)) zB6)))
theorem lb233_1_ap {l : Ls} {H : AH} {Q : Fl → AH → Prop} : lb233_1 l H Q = (zB3 (zG7 (zC3 (zB1 2) (zA5 (V.int 0)) zD5) 3) (zB3 (zG3 (zB4 (zC3 (zB1 3) (zA5 (V.str (Str.ofString "get_variable"))) wEq)) (zB3 (wAsgSw (wTup (zA4 (zC3 (zB1 2) (zA5 (V.int 1)) zD5) (zA4 (zC3 (zB1 2) (zA5 (V.int 2)) zD5) zB5))) 4 5) zB6) (zB3 (zG3 (zB4 (zC3 (zB1 3) (zA5 (V.str (Str.ofString "put_value"))) wEq)) (zB3 (wAsgSw (wTup (zA4 (zC3 (zB1 2) (zA5 (V.int 1)) zD5) (zA4 (zC3 (zB1 2) (zA5 (V.int 2)) zD5) zB5))) 5 4) zB6) (zB3 wCont zB6)) zB6)) (zB3 (zG3 (wOrB (zB4 (zC3 (zC3 (zB1 5) (zA5 (V.int 0)) zD5) (zA5 (V.str (Str.ofString "y"))) wEq)) (wOrB (zB4 (zC3 (zC3 (zB1 4) (zA5 (V.int 0)) zD5) (zA5 (V.str (Str.ofString "y"))) wEq)) (wTrue false))) (zB3 wCont zB6) zB6) (zB3 (zG3 (zB4 (zC3 (zC3 (zB1 4) (zA5 (V.int 0)) zD5) (zA5 (V.str (Str.ofString "t"))) wEq)) (zB3 (zG1 (zD2 zE1 (zD2 isDict (zB1 1) wSetD (zA4 (zC3 (zB1 4) (zA5 (V.int 1)) zD5) (zA4 (zF5 zB5) zB5))) zD1 (zA4 (zB1 5) zB5))) zB6) zB6) (zB3 (zG3 (zB4 (zC3 (zC3 (zB1 5) (zA5 (V.int 0)) zD5) (zA5 (V.str (Str.ofString "t"))) wEq)) (zB3 (zG1 (zD2 zE1 (zD2 isDict (zB1 1) wSetD (zA4 (zC3 (zB1 5) (zA5 (V.int 1)) zD5) (zA4 (zF5 zB5) zB5))) zD1 (zA4 (zB1 4) zB5))) zB6) zB6) zB6))))) l H Q := rfl
theorem wb233_ap {l : Ls} {H : AH} {Q : Fl → AH → Prop} : wb233 l H Q = (zB3 (zG7 wDict 1) (zB3 (wFor (zB1 0) (zG2 2) lb233_1) (zB3 (wRet (zB1 1)) zB6))) l H Q := rfl
theorem len_op {o : Op} {H : AH} {Q : V → AH → Prop} : wLen [(Pt.op o).v] H Q = Q (.int 2) H := by
  show wLen [.tup [.str o.tag, .int o.num]] H Q = _
  dsimp only [wLen]; simp
theorem WInv.add {H0 P t H F M N k} {o : Op} (W : WInv H0 P t H F M N) (po : P o) {H' : AH} {F' : Addr → Prop} (md : MD H' t F' (updM M k (M k ++ [o.v])) (N + 1)) (kp : ∀ b o, H b = some o → b ≠ t → (∀ xs, o ≠ .list xs) ∨ ¬ F b → H' b = some o)
    (new : ∀ b, F' b → F b ∨ H b = none) (wf' : WF H') : WInv H0 P t H' F' (updM M k (M k ++ [o.v])) (N + 1) where
  le := fun b x e => kp b x (W.le b x e) (fun z => by rw [z, W.ht] at e; injection e) (.inr fun f => by rw [W.hF b f] at e; injection e)
  wf := wf'
  md := md
  ht := W.ht
  hF := fun b f => (new b f).elim (W.hF b) fun z => W.le.none z
  ops := fun z => by
    unfold updM
    by_cases e : z = k
    · subst e
      rw [if_pos rfl]
      obtain ⟨ops, e1, e2⟩ := W.ops z
      refine ⟨ops ++ [o], by rw [e1]; simp, fun x hx => ?_⟩
      rcases List.mem_append.mp hx with h | h
      · exact e2 x h
      · simp only [List.mem_singleton.mp h]; exact po
    · rw [if_neg e]; exact W.ops z
theorem WInv.mono {H0 P t H F M N N'} (W : WInv H0 P t H F M N) (h : N ≤ N') : WInv H0 P t H F M N' := ⟨W.le, W.wf, W.md.mono h, W.ht, W.hF, W.ops⟩
noncomputable def wishA : Ls → Wp Fl := zG3 (wOrB (zB4 (zC3 (zC3 (zB1 5) (zA5 (V.int 0)) zD5) (zA5 (V.str (Str.ofString "y"))) wEq)) (wOrB (zB4 (zC3 (zC3 (zB1 4) (zA5 (V.int 0)) zD5) (zA5 (V.str (Str.ofString "y"))) wEq)) (wTrue false))) (zB3 wCont zB6) zB6
noncomputable def wishB : Ls → Wp Fl := zG3 (zB4 (zC3 (zC3 (zB1 4) (zA5 (V.int 0)) zD5) (zA5 (V.str (Str.ofString "t"))) wEq)) (zB3 (zG1 (zD2 zE1 (zD2 isDict (zB1 1) wSetD (zA4 (zC3 (zB1 4) (zA5 (V.int 1)) zD5) (zA4 (zF5 zB5) zB5))) zD1 (zA4 (zB1 5) zB5))) zB6) zB6
noncomputable def wishC : Ls → Wp Fl := zG3 (zB4 (zC3 (zC3 (zB1 5) (zA5 (V.int 0)) zD5) (zA5 (V.str (Str.ofString "t"))) wEq)) (zB3 (zG1 (zD2 zE1 (zD2 isDict (zB1 1) wSetD (zA4 (zC3 (zB1 5) (zA5 (V.int 1)) zD5) (zA4 (zF5 zB5) zB5))) zD1 (zA4 (zB1 4) zB5))) zB6) zB6
noncomputable def wishTail : Ls → Wp Fl := zB3 wishA (zB3 wishB (zB3 wishC zB6))
noncomputable def wishHead : Ls → Wp Fl := zG3 (zB4 (zC3 (zB1 3) (zA5 (V.str (Str.ofString "get_variable"))) wEq)) (zB3 (wAsgSw (wTup (zA4 (zC3 (zB1 2) (zA5 (V.int 1)) zD5) (zA4 (zC3 (zB1 2) (zA5 (V.int 2)) zD5) zB5))) 4 5) zB6) (zB3 (zG3 (zB4 (zC3 (zB1 3) (zA5 (V.str (Str.ofString "put_value"))) wEq)) (zB3 (wAsgSw (wTup (zA4 (zC3 (zB1 2) (zA5 (V.int 1)) zD5) (zA4 (zC3 (zB1 2) (zA5 (V.int 2)) zD5) zB5))) 5 4) zB6) (zB3 wCont zB6)) zB6)
theorem wish_body {l : Ls} {H : AH} {Q : Fl → AH → Prop} : lb233_1 l H Q = zB3 (zG7 (zC3 (zB1 2) (zA5 (V.int 0)) zD5) 3) (zB3 wishHead wishTail) l H Q := rfl
theorem wishB_is {l H Q} : wishB l H Q = zG3 (zB4 (zC3 (zC3 (zB1 4) (zA5 (V.int 0)) zD5) (zA5 (V.str (Str.ofString "t"))) wEq)) (zB3 (zG1 (zD2 zE1 (zD2 isDict (zB1 1) wSetD (zA4 (zC3 (zB1 4) (zA5 (V.int 1)) zD5) (zA4 (zF5 zB5) zB5))) zD1 (zA4 (zB1 5) zB5))) zB6) zB6 l H Q := rfl
theorem wishC_is {l H Q} : wishC l H Q = zG3 (zB4 (zC3 (zC3 (zB1 5) (zA5 (V.int 0)) zD5) (zA5 (V.str (Str.ofString "t"))) wEq)) (zB3 (zG1 (zD2 zE1 (zD2 isDict (zB1 1) wSetD (zA4 (zC3 (zB1 5) (zA5 (V.int 1)) zD5) (zA4 (zF5 zB5) zB5))) zD1 (zA4 (zB1 4) zB5))) zB6) zB6 l H Q := rfl
theorem wishA_is {l H Q} : wishA l H Q = zG3 (wOrB (zB4 (zC3 (zC3 (zB1 5) (zA5 (V.int 0)) zD5) (zA5 (V.str (Str.ofString "y"))) wEq)) (wOrB (zB4 (zC3 (zC3 (zB1 4) (zA5 (V.int 0)) zD5) (zA5 (V.str (Str.ofString "y"))) wEq)) (wTrue false))) (zB3 wCont zB6) zB6 l H Q := rfl
theorem wish_c {H0 P t H F M N} (W : WInv H0 P t H F M N) (hN : N ≤ 10000) {x0 x2 x3 : V} {T S : Op} (pT : P T) {K : Fl → AH → Prop}
    (k : ∀ H' F' M', WInv H0 P t H' F' M' (N + 1) → K (.next [some x0, some (.ref t), some x2, some x3, some T.v, some S.v]) H') : wishC [some x0, some (.ref t), some x2, some x3, some T.v, some S.v] H K := by
  cases S with
  | t n =>
    dsimp! only [↓it_op, ↓zG5, ↓wishC_is]
    refine ⟨W.md.ok, by lia, fun n hn => W.md.add W.wf (by lia) hn fun H' F' md kp sub new wf' => ?_⟩
    exact k _ _ _ (W.add pT md kp new wf')
  | a n => dsimp! only [↓it_op, ↓zG5, ↓wishC_is]; exact k _ _ _ (W.mono (by lia))
  | y n => dsimp! only [↓it_op, ↓zG5, ↓wishC_is]; exact k _ _ _ (W.mono (by lia))
  | x n => dsimp! only [↓it_op, ↓zG5, ↓wishC_is]; exact k _ _ _ (W.mono (by lia))
theorem wish_b {H0 P t H F M N} (W : WInv H0 P t H F M N) (hN : N ≤ 10000) {x0 x2 x3 : V} {T S : Op} (pS : P S) {K : Fl → AH → Prop}
    (k : ∀ H' F' M', WInv H0 P t H' F' M' (N + 1) → K (.next [some x0, some (.ref t), some x2, some x3, some T.v, some S.v]) H') : wishB [some x0, some (.ref t), some x2, some x3, some T.v, some S.v] H K := by
  cases T with
  | t n =>
    dsimp! only [↓it_op, ↓zG5, ↓wishB_is]
    refine ⟨W.md.ok, by lia, fun n hn => W.md.add W.wf (by lia) hn fun H' F' md kp sub new wf' => ?_⟩
    exact k _ _ _ (W.add pS md kp new wf')
  | a n => dsimp! only [↓it_op, ↓zG5, ↓wishB_is]; exact k _ _ _ (W.mono (by lia))
  | y n => dsimp! only [↓it_op, ↓zG5, ↓wishB_is]; exact k _ _ _ (W.mono (by lia))
  | x n => dsimp! only [↓it_op, ↓zG5, ↓wishB_is]; exact k _ _ _ (W.mono (by lia))
theorem wish_tail {H0 P t H F M N} (W : WInv H0 P t H F M N) (hN : N ≤ 9000) {x0 x2 x3 : V} {T S : Op} (pT : P T) (pS : P S) {K : Fl → AH → Prop}
    (k1 : ∀ H' F' M', WInv H0 P t H' F' M' (N + 2) → K (.next [some x0, some (.ref t), some x2, some x3, some T.v, some S.v]) H')
    (k2 : ∀ H' F' M', WInv H0 P t H' F' M' (N + 2) → K (.cont [some x0, some (.ref t), some x2, some x3, some T.v, some S.v]) H') :
    wishTail [some x0, some (.ref t), some x2, some x3, some T.v, some S.v] H K := by
  have main : zB3 wishB (zB3 wishC zB6) [some x0, some (.ref t), some x2, some x3, some T.v, some S.v] H K := by
    refine wish_b W (by lia) pS fun H1 F1 M1 W1 => ?_
    refine wish_c W1 (by lia) pT fun H2 F2 M2 W2 => ?_
    exact k1 _ _ _ W2
  have ct := k2 H F M (W.mono (by lia))
  show zB3 wishA (zB3 wishB (zB3 wishC zB6)) _ H _
  cases S with
  | y n => dsimp! only [↓it_op, ↓zG5, ↓wishA_is]; exact ct
  | t n => cases T <;> dsimp! only [↓it_op, ↓zG5, ↓wishA_is] <;> first | exact main | exact ct
  | a n => cases T <;> dsimp! only [↓it_op, ↓zG5, ↓wishA_is] <;> first | exact main | exact ct
  | x n => cases T <;> dsimp! only [↓it_op, ↓zG5, ↓wishA_is] <;> first | exact main | exact ct
theorem roles_at {r : Row} {p : Int × Nat} (h : p ∈ rspec r.nm) : (p.1, opAt r.ps p.2) ∈ roles r := List.mem_map.mpr ⟨p, h, rfl⟩
theorem wish_loop {H0 : AH} {P : Op → Prop} {la t : Addr} {rows : List Row} (h0 : H0 la = some (.list (rows.map Row.v))) (ok : ∀ r ∈ rows, Row.ok r) (hP : ∀ r ∈ rows, ∀ p ∈ roles r, P p.2) (src : Src) (hs : src = .list la (rows.map Row.v)) (K : Fl → AH → Prop)
    (k : ∀ H' F' M' tl, WInv H0 P t H' F' M' (2 * rows.length) → K (.next (some (.ref la) :: some (.ref t) :: tl)) H') :
    ∀ (rs : List Row) (H : AH) (F : Addr → Prop) (M : Int → List V) (N : Nat) (x2 x3 x4 x5 : Option V), (∀ r ∈ rs, r ∈ rows) → WInv H0 P t H F M N → N + 2 * rs.length ≤ 2 * rows.length → rows.length ≤ 1000 →
    wLoop src (zG2 2) lb233_1 (rs.map Row.v) [some (.ref la), some (.ref t), x2, x3, x4, x5] H K := by
  intro zz
  induction zz with
  | nil =>
    intro H F M N x2 x3 x4 x5 sub W hN hr
    exact k _ _ _ _ (W.mono (by simpa using hN))
  | cons r rs ih =>
    intro H F M N x2 x3 x4 x5 sub W hN hr
    have okr := ok r (sub r (.head _))
    have hPr := hP r (sub r (.head _))
    have sub' : ∀ x ∈ rs, x ∈ rows := fun x hx => sub x (.tail _ hx)
    simp only [List.map_cons, lp_cons]
    have st : ∀ {H' F' M' N'}, WInv H0 P t H' F' M' N' → Still H' src := fun W' => by subst hs; exact W'.le _ _ h0
    simp only [List.length_cons] at hN
    simp only [↓zG2, ↓kL1, List.set_cons_succ, List.set_cons_zero]
    simp only [wish_body]
    have tail : ∀ T S : Op, P T → P S → wishTail [some (.ref la), some (.ref t), some r.v, some (.str r.nm), some T.v, some S.v] H (fun f H'' => match f with
        | .next l'' => Still H'' src ∧ wLoop src (zG2 2) lb233_1 (rs.map Row.v) l'' H'' K
        | .cont l'' => Still H'' src ∧ wLoop src (zG2 2) lb233_1 (rs.map Row.v) l'' H'' K
        | .brk l'' => K (.next l'') H''
        | .ret v => K (.ret v) H'') := fun T S pT pS => by
      refine wish_tail W (by lia) pT pS (fun H' F' M' W' => ?_) (fun H' F' M' W' => ?_)
      · exact ⟨st W', ih _ _ _ _ _ _ _ _ sub' W' (by lia) hr⟩
      · exact ⟨st W', ih _ _ _ _ _ _ _ _ sub' W' (by lia) hr⟩
    unfold wishHead
    by_cases h1 : r.nm = "get_variable"
    · have p0 := okr.at (p := (2, 0)) (by rw [h1, rs_gv]; simp)
      have p1 := okr.at (p := (1, 1)) (by rw [h1, rs_gv]; simp)
      simp! only [↓wSub_row0, ↓zG4 p0, ↓wSub_row2 p1, ↓qs_t okr.nm n_gv h1]
      refine ⟨by lia, ?_⟩
      exact tail _ _ (hPr _ (roles_at (p := (2, 0)) (by rw [h1, rs_gv]; simp))) (hPr _ (roles_at (p := (1, 1)) (by rw [h1, rs_gv]; simp)))
    · by_cases h2 : r.nm = "put_value"
      · have p0 := okr.at (p := (1, 0)) (by rw [h2, rs_pv]; simp)
        have p1 := okr.at (p := (2, 1)) (by rw [h2, rs_pv]; simp)
        simp! only [↓wSub_row0, ↓zG4 p0, ↓wSub_row2 p1, ↓qs_f okr.nm n_gv h1, ↓qs_t okr.nm n_pv h2]
        refine ⟨by lia, ?_⟩
        exact tail _ _ (hPr _ (roles_at (p := (2, 1)) (by rw [h2, rs_pv]; simp))) (hPr _ (roles_at (p := (1, 0)) (by rw [h2, rs_pv]; simp)))
      · simp! only [↓wSub_row0, ↓qs_f okr.nm n_gv h1, ↓qs_f okr.nm n_pv h2]
        exact ⟨st W, ih _ _ _ _ _ _ _ _ sub' W (by lia) hr⟩
theorem great_loop1 {H0 : AH} {B : Int} {r : Row} {n la : Addr} (hr : ∀ p ∈ roles r, ∀ n, p.2 = .x n → n ≤ B) (src : Src) (H : AH) (hst : Still H src) (K : Fl → AH → Prop) (x0 x2 : V) (k : ∀ (m : Int) x3 x4, m ≤ B → K (.next [some x0, some (.int m), some x2, x3, x4]) H) :
    ∀ (ps : List (Int × Op)) (m : Int) (x3 x4 : Option V), (∀ p ∈ ps, p ∈ roles r) → m ≤ B → wLoop src (wSet2 3 4) lb310_1 (ps.map roleV) [some x0, some (.int m), some x2, x3, x4] H K := by
  intro zz
  induction zz with
  | nil =>
    intro m x3 x4 sub hm
    exact k _ _ _ hm
  | cons p ps ih =>
    intro m x3 x4 sub hm
    have sub' : ∀ x ∈ ps, x ∈ roles r := fun x hx => sub x (.tail _ hx)
    simp only [List.map_cons, lp_cons]
    obtain ⟨q, o⟩ := p
    have hp := hr (q, o) (sub _ (.head _))
    cases o with
    | x n =>
      by_cases h : m < n
      · dsimp! only [↓it_op, ↓zG5, ↓set_role, ↓lb310_1_ap, ↓gt_t h]
        exact ⟨hst, ih _ _ _ sub' (hp n rfl)⟩
      · dsimp! only [↓it_op, ↓zG5, ↓set_role, ↓lb310_1_ap, ↓gt_f h]
        exact ⟨hst, ih _ _ _ sub' hm⟩
    | t n => dsimp! only [↓it_op, ↓zG5, ↓set_role, ↓lb310_1_ap]; exact ⟨hst, ih _ _ _ sub' hm⟩
    | a n => dsimp! only [↓it_op, ↓zG5, ↓set_role, ↓lb310_1_ap]; exact ⟨hst, ih _ _ _ sub' hm⟩
    | y n => dsimp! only [↓it_op, ↓zG5, ↓set_role, ↓lb310_1_ap]; exact ⟨hst, ih _ _ _ sub' hm⟩
theorem great_loop2 {H0 : AH} {B : Int} {la : Addr} {rows : List Row} (h0 : H0 la = some (.list (rows.map Row.v))) (ok : ∀ r ∈ rows, Row.ok r) (hr : ∀ r ∈ rows, ∀ p ∈ roles r, ∀ n, p.2 = .x n → n ≤ B) (src : Src) (hs : src = .list la (rows.map Row.v)) (K : Fl → AH → Prop)
    (k : ∀ H' (m : Int) x2 x3 x4, Le H0 H' → m ≤ B → K (.next [some (.ref la), some (.int m), x2, x3, x4]) H') :
    ∀ (rs : List Row) (H : AH) (m : Int) (x2 x3 x4 : Option V), (∀ r ∈ rs, r ∈ rows) → Le H0 H → m ≤ B → wLoop src (zG2 2) lb310_2 (rs.map Row.v) [some (.ref la), some (.int m), x2, x3, x4] H K := by
  intro zz
  induction zz with
  | nil =>
    intro H m x2 x3 x4 sub l hm
    exact k _ _ _ _ _ l hm
  | cons r rs ih =>
    intro H m x2 x3 x4 sub l hm
    simp! only [↓lb310_2_ap, ↓wFor]
    refine ⟨r, rfl, ok r (sub r (.head _)), fun n hn => ?_⟩
    have l' : Le H0 (H.set n (.list (rolesV r))) := l.set (l.none hn)
    refine ⟨.list n (rolesV r), .list (AH.set_self ..), trivial, ?_⟩
    refine great_loop1 (H0 := H0) (n := n) (la := la) (hr r (sub r (.head _))) (.list n (rolesV r)) (H.set n (.list (rolesV r))) (AH.set_self ..) _ _ _ (fun m x3 x4 hm => ?_) (roles r) m _ _ (fun _ h => h) hm
    refine ⟨by subst hs; exact l' _ _ h0, ih _ _ _ _ _ (fun x hx => sub x (.tail _ hx)) l' hm⟩
section
variable {c : Cx} (Fn : Fns c.K)
include Fn
theorem rf296 : RF c 1 296 sp296 := by
  refine rf_of (ps := (["operand", "home"] : List Str)) (rest := ([] : List Str)) Fn.f296 (zA1 (zE5 (zH4 (rts_and (rt_of (zH2 _ rb_isi (zA2 (zA3 0) (zA2 (re_ty "tuple") zA7)))) (rts_and (zC4 (zH2 _ rb_len (zA2 (zA3 0) zA7)) zB2 zE4) rts_nilA))) (zA1 (zE5 (zC4 (zC2 (zA3 0) zB2 zC1) zC6 zE4) (zA1 (zD4 (zE7 (zA2 zC6 (zA2 (zC2 (zA3 1) (zC2 (zA3 0) zB2 zC1) zC1) zA7)))) zA6) zA6) (zA1 (zE5 (zC4 (zC2 (zA3 0) zB2 zC1) zC6 zE4) (zA1 (zD4 (zE7 (zA2 zC6 (zA2 (zC2 (zA3 0) zB2 zC1) zA7)))) zA6) zA6) zA6)) zA6) (zA1 (zD4 (zA3 0)) zA6)) ?_ (fun pm cd => len2 (fun _ _ => by rfl))
  rintro xs H Q wf ⟨p, a, f, N, rfl, hD, ht, q⟩
  refine ⟨rfl, ?_⟩
  show wBody _ [some _, some _] _ _
  cases p with
  | num i =>
    dsimp! only [↓wb296_ap, ↓it_op, ↓zG5]
    exact zB7 wf q
  | op o =>
    cases o with
    | t n =>
      obtain ⟨r, hr⟩ := ht n rfl
      dsimp! only [↓wb296_ap, ↓it_op, ↓zG5, ↓len_op, ↓eq_t (rfl : (2 : Int) = 2)]
      refine hD.at hr ?_
      refine ⟨by simp, zB7 wf ?_⟩
      simpa [realPt, zH5, hr, Pt.v, Op.v, Op.tag, Op.num] using q
    | a n =>
      dsimp! only [↓wb296_ap, ↓it_op, ↓zG5, ↓len_op, ↓eq_t (rfl : (2 : Int) = 2)]
      refine ⟨by simp, zB7 wf ?_⟩
      simpa [realPt, zH5, Pt.v, Op.v, Op.tag, Op.num] using q
    | y n =>
      dsimp! only [↓wb296_ap, ↓it_op, ↓zG5, ↓len_op, ↓eq_t (rfl : (2 : Int) = 2)]
      exact zB7 wf q
    | x n =>
      dsimp! only [↓wb296_ap, ↓it_op, ↓zG5, ↓len_op, ↓eq_t (rfl : (2 : Int) = 2)]
      exact zB7 wf q
theorem rf310 : RF c 2 310 sp310 := by
  have h186 := (rf186 Fn : RF c 1 186 sp186)
  have hnd : ((["instrs"] : List Str) ++ (["most", "instruction", "role", "operand"] : List Str)).Nodup := by decide
  refine rf_of (ps := (["instrs"] : List Str)) (rest := (["most", "instruction", "role", "operand"] : List Str)) Fn.f310 (zA1 (zD6 1 zB2) (zA1 (rs_for (zA3 0) (tg_name 2) (zA1 (rs_for (zE6 (f := 186) h186 (zA2 (zA3 2) zA7)) (tg_two 3 4) (zA1 (zE5 (zH4 (rts_and (zC4 (zC2 (zA3 4) zB2 zC1) zC6 zE4) (rts_and (zC4 (zC2 (zA3 4) zB2 zC1) (zA3 1) rv_gt) rts_nilA))) (zA1 (zD6 1 (zC2 (zA3 4) zB2 zC1)) zA6) zA6) zA6)) zA6)) (zA1 (zD4 (zA3 1)) zA6))) ?_ (fun pm cd => len1 (fun _ => by rfl))
  rintro xs H Q wf ⟨la, rows, B, rfl, h0, ok, hr, hB, q⟩
  refine ⟨rfl, ?_⟩
  refine ⟨.list la (rows.map Row.v), .list (h0), trivial, ?_⟩
  refine great_loop2 h0 ok hr (.list la (rows.map Row.v)) rfl _ (fun H' m x2 x3 x4 l hm => ?_) rows H 0 none none none (fun _ h => h) (Le.refl H) hB
  exact ret_le l wf (q m hm)
theorem rf233 : RF c 1 233 sp233 := by
  have hnd : ((["instrs"] : List Str) ++ (["table", "instruction", "name", "target", "source"] : List Str)).Nodup := by decide
  refine rf_of (ps := (["instrs"] : List Str)) (rest := (["table", "instruction", "name", "target", "source"] : List Str)) Fn.f233 (zA1 (zD6 1 re_dict) (zA1 (rs_for (zA3 0) (tg_name 2) (zA1 (zD6 3 (zC2 (zA3 2) zB2 zC1)) (zA1 (zE5 (zC4 (zA3 3) zC6 zE4) (zA1 (rs_asgSw 4 5 (zE7 (zA2 (zC2 (zA3 2) zB2 zC1) (zA2 (zC2 (zA3 2) zB2 zC1) zA7)))) zA6) (zA1 (zE5 (zC4 (zA3 3) zC6 zE4) (zA1 (rs_asgSw 5 4 (zE7 (zA2 (zC2 (zA3 2) zB2 zC1) (zA2 (zC2 (zA3 2) zB2 zC1) zA7)))) zA6) (zA1 rs_cont zA6)) zA6)) (zA1 (zE5 (zH4 (zH7 (zC4 (zC2 (zA3 5) zB2 zC1) zC6 zE4) (zH7 (zC4 (zC2 (zA3 4) zB2 zC1) zC6 zE4) rts_nilO))) (zA1 rs_cont zA6) zA6) (zA1 (zE5 (zC4 (zC2 (zA3 4) zB2 zC1) zC6 zE4) (zA1 (zG6 (zD7 (zD7 (zA3 1) rb_setd (zA2 (zC2 (zA3 4) zB2 zC1) (zA2 (zE2 zA7) zA7)) (gm_dict F.slot_dict_setdefault) _) zF7 (zA2 (zA3 5) zA7) (gm_list F.slot_list_append) _)) zA6) zA6) (zA1 (zE5 (zC4 (zC2 (zA3 5) zB2 zC1) zC6 zE4) (zA1 (zG6 (zD7 (zD7 (zA3 1) rb_setd (zA2 (zC2 (zA3 5) zB2 zC1) (zA2 (zE2 zA7) zA7)) (gm_dict F.slot_dict_setdefault) _) zF7 (zA2 (zA3 4) zA7) (gm_list F.slot_list_append) _)) zA6) zA6) zA6)))))) (zA1 (zD4 (zA3 1)) zA6))) ?_ (fun pm cd => len1 (fun _ => by rfl))
  rintro xs H Q wf ⟨la, rows, P, rfl, h0, ok, hl, hP, q⟩
  refine ⟨rfl, ?_⟩
  intro t ht
  have l : Le H (H.set t (.dictE 0)) := (Le.refl H).set ht
  have W0 : WInv H P t (H.set t (.dictE 0)) (fun _ => False) (fun _ => []) 0 := ⟨l, wf.new ht, MD.empty (ep := 0) (AH.set_self ..), ht, (fun _ h => h.elim), fun _ => ⟨[], rfl, fun _ h => by cases h⟩⟩
  have la_t := AH.ne_of h0 ht
  refine ⟨.list la (rows.map Row.v), .list (by rw [AH.set_ne _ _ la_t]; exact h0), trivial, ?_⟩
  refine wish_loop h0 ok hP (.list la (rows.map Row.v)) rfl _ (fun H' F' M' tl W => ?_) rows _ _ _ 0 none none none none (fun _ h => h) W0 (by lia) hl
  exact zB7 W.wf (q t H' F' M' W)
end
end
section
noncomputable def IsV (H : AH) (a : Addr) (g : Int → Option V) (N : Nat) : Prop := ∃ es : List (Int × V), (∀ k, look es k = g k) ∧ es.length ≤ N ∧ ((∃ ep, H a = some (.dictI ep es)) ∨ (es = [] ∧ ∃ ep, H a = some (.dictE ep)))
theorem IsV.keep {H H' : AH} {a g N} (h : IsV H a g N) (e : ∀ o, H a = some o → H' a = some o) : IsV H' a g N := by
  obtain ⟨es, h1, h2, h3⟩ := h
  refine ⟨es, h1, h2, ?_⟩
  rcases h3 with ⟨ep, h3⟩ | ⟨h4, ep, h3⟩
  · exact .inl ⟨ep, e _ h3⟩
  · exact .inr ⟨h4, ep, e _ h3⟩
theorem IsV.mono {H : AH} {a g N M} (h : IsV H a g N) (le : N ≤ M) : IsV H a g M := by
  obtain ⟨es, h1, h2, h3⟩ := h
  exact ⟨es, h1, Nat.le_trans h2 le, h3⟩
theorem IsV.congr {H : AH} {a g g' N} (h : IsV H a g N) (e : ∀ k, g k = g' k) : IsV H a g' N := by
  obtain ⟨es, h1, h2, h3⟩ := h
  exact ⟨es, fun k => (h1 k).trans (e k), h2, h3⟩
theorem IsV.obj {H : AH} {a g N} (h : IsV H a g N) : ∃ o, H a = some o ∧ (∀ C d fs, o ≠ .inst C d fs) ∧ (∀ b, o ≠ .own b) ∧ ∀ xs, o ≠ .list xs := by
  obtain ⟨es, h1, h2, h3⟩ := h
  rcases h3 with ⟨ep, h3⟩ | ⟨h4, ep, h3⟩
  · exact ⟨_, h3, (by intro _ _ _ q; injection q), (by intro _ q; injection q), (by intro _ q; injection q)⟩
  · exact ⟨_, h3, (by intro _ _ _ q; injection q), (by intro _ q; injection q), (by intro _ q; injection q)⟩
theorem IsV.empty {H : AH} {a ep} (h : H a = some (.dictE ep)) : IsV H a (fun _ => none) 0 := ⟨[], fun _ => rfl, Nat.le_refl _, .inr ⟨rfl, ep, h⟩⟩
theorem IsV.put {H : AH} {a g N} (h : IsV H a g N) (hN : N ≤ 1000000) {k : Int} {v : V} {Q : Unit → AH → Prop} (q : ∀ o, (∀ C d fs, o ≠ .inst C d fs) → IsV (H.set a o) a (updM g k (some v)) (N + 1) → Q () (H.set a o)) : wPutI (.ref a) (.int k) v H Q := by
  obtain ⟨es, h1, h2, h3⟩ := h
  have fin : ∀ ep, Q () (H.set a (.dictI ep (dput es k v))) := fun ep => q _ (by intro _ _ _ q; injection q)
    ⟨_, fun k' => by rw [look_dput]; unfold updM; split <;> simp [h1], Nat.le_trans (length_dput ..) (by lia), .inl ⟨ep, AH.set_self ..⟩⟩
  rcases h3 with ⟨ep, h3⟩ | ⟨h4, ep, h3⟩
  · dsimp only [wPutI]; simp only [h3]; exact ⟨by lia, fin⟩
  · subst h4
    dsimp only [wPutI]; simp only [h3]; exact fin
theorem IsV.has {H : AH} {a g N} (h : IsV H a g N) {k : Int} (f : Bool → Bool) {Q : V → AH → Prop} (q : Q (.bool (f (g k).isSome)) H) : wInB f (.int k) (.ref a) H Q := by
  obtain ⟨es, h1, h2, h3⟩ := h
  rw [← h1] at q
  rcases h3 with ⟨ep, h3⟩ | ⟨h4, ep, h3⟩
  · dsimp only [wInB]; simp only [h3]; exact q
  · subst h4
    dsimp only [wInB]; simp only [h3]
    exact q
theorem IsV.at {H : AH} {a g N} (h : IsV H a g N) {k : Int} {v : V} (hv : g k = some v) {Q : V → AH → Prop} (q : Q v H) : zD5 (.ref a) (.int k) H Q := by
  obtain ⟨es, h1, h2, h3⟩ := h
  have e : look es k = some v := by rw [h1, hv]
  rcases h3 with ⟨ep, h3⟩ | ⟨h4, ep, h3⟩
  · dsimp only [zD5]; simp only [h3, e]; exact q
  · subst h4; injection e
theorem IsV.src {H : AH} {a g N} (h : IsV H a g N) : ∃ ep es, IsSrc H (.ref a) (.dict a ep es) ∧ Still H (.dict a ep es) ∧ (∀ k : Int, look es k = g k) := by
  obtain ⟨es, h1, h2, h3⟩ := h
  rcases h3 with ⟨ep, h3⟩ | ⟨h4, ep, h3⟩
  · exact ⟨ep, es, .dict h3, .inl h3, h1⟩
  · subst h4
    exact ⟨ep, [], .dictE h3, .inr ⟨rfl, h3⟩, h1⟩
theorem nodup_inj {α : Type} {l : List α} (nd : l.Nodup) {i j : Nat} {a : α} (h1 : l[i]? = some a) (h2 : l[j]? = some a) : i = j := by
  obtain ⟨a1, a2⟩ := List.getElem?_eq_some_iff.mp h1
  obtain ⟨b1, b2⟩ := List.getElem?_eq_some_iff.mp h2
  exact (List.getElem_inj nd).mp (a2.trans b2.symm)
inductive D3 where | inc | out | tmp
  deriving DecidableEq
structure Iv where
  found : List Occ
  mp : D3 → Int → Option Nat
noncomputable def Iv.put (S : Iv) (j : D3) (k : Int) (i : Nat) : Iv := { S with mp := fun j' => if j' = j then updM (S.mp j) k (some i) else S.mp j' }
noncomputable def Iv.clr (S : Iv) (j : D3) : Iv := { S with mp := fun j' => if j' = j then fun _ => none else S.mp j' }
noncomputable def Iv.push (S : Iv) (o : Occ) : Iv := { S with found := S.found ++ [o] }
noncomputable def stopAt (l : List Occ) (i : Nat) (at' : Int) : List Occ := match l[i]? with | some o => l.set i { o with stop := at' } | none => l
noncomputable def Iv.stop (S : Iv) (i : Nat) (at' : Int) : Iv := { S with found := stopAt S.found i at' }
noncomputable def rfA (ads : List Addr) (i : Nat) : V := .ref (ads.getD i 0)
structure IvD (J : D3 → Prop) (H0 H : AH) (fl : Addr) (da : D3 → Addr) (ads : List Addr) (S : Iv) (N : Nat) : Prop where
  le : Le H0 H
  wf : WF H
  ffl : H0 fl = none
  fda : ∀ j, J j → H0 (da j) = none
  fad : ∀ a ∈ ads, H0 a = none
  len : ads.length = S.found.length
  occ : ∀ (i : Nat) (a : Addr), ads[i]? = some a → ∃ (o : Occ) (d : Addr), S.found[i]? = some o ∧ H a = some (.inst 217 d o.fs)
  nd : ads.Nodup
  dict : ∀ j, J j → IsV H (da j) (fun k => (S.mp j k).map (rfA ads)) N
  bd : ∀ j k i, S.mp j k = some i → i < ads.length
  inj : ∀ i j, J i → J j → da i = da j → i = j
section
variable {J : D3 → Prop} {H0 H H' : AH} {fl : Addr} {da : D3 → Addr} {ads : List Addr} {S : Iv} {N : Nat}
theorem IvD.ext (I : IvD J H0 H fl da ads S N) (l : Le H H') (wf : WF H') : IvD J H0 H' fl da ads S N :=
  ⟨I.le.trans l, wf, I.ffl, I.fda, I.fad, I.len, fun i a e => let ⟨o, d, a1, a2⟩ := I.occ i a e; ⟨o, d, a1, l _ _ a2⟩, I.nd, fun j hj => (I.dict j hj).keep fun o e => l _ _ e, I.bd, I.inj⟩
theorem IvD.mono (I : IvD J H0 H fl da ads S N) {M : Nat} (h : N ≤ M) : IvD J H0 H fl da ads S M :=
  ⟨I.le, I.wf, I.ffl, I.fda, I.fad, I.len, I.occ, I.nd, fun j hj => (I.dict j hj).mono h, I.bd, I.inj⟩
theorem IvD.setfl (I : IvD J H0 H fl da ads S N) {xs ys : List V} (h : H fl = some (.list xs)) : IvD J H0 (H.set fl (.list ys)) fl da ads S N := by
  refine ⟨I.le.set I.ffl, I.wf.upd h, I.ffl, I.fda, I.fad, I.len, fun i a e => ?_, I.nd, fun j hj => (I.dict j hj).keep fun o e => ?_, I.bd, I.inj⟩
  · obtain ⟨o, d, a1, a2⟩ := I.occ i a e
    refine ⟨o, d, a1, ?_⟩
    rw [AH.set_ne]
    · exact a2
    · intro z; rw [z, h] at a2; exact nomatch a2
  · rw [AH.set_ne]
    · exact e
    · intro z
      obtain ⟨o', e', _, _, h3⟩ := (I.dict j hj).obj
      rw [z, h] at e'; exact h3 _ (Option.some.inj e').symm
theorem rfA_app {ads : List Addr} {n : Addr} {i : Nat} (h : i < ads.length) : rfA (ads ++ [n]) i = rfA ads i := by
  simp [rfA, List.getElem?_append_left h]
theorem rfA_last {ads : List Addr} {n : Addr} : rfA (ads ++ [n]) ads.length = .ref n := by
  simp [rfA]
theorem IvD.grow (I : IvD J H0 H fl da ads S N) {n d : Addr} {o : Occ} (hn : H n = some (.inst 217 d o.fs)) (h0 : H0 n = none) (hna : n ∉ ads) : IvD J H0 H fl da (ads ++ [n]) (S.push o) N := by
  refine ⟨I.le, I.wf, I.ffl, I.fda, fun a h => ?_, by simp [Iv.push, I.len], fun i a e => ?_, ?_, fun j hj => (I.dict j hj).congr fun k => ?_, fun j k i e => ?_, I.inj⟩
  · rcases List.mem_append.mp h with h | h
    · exact I.fad a h
    · rw [List.mem_singleton.mp h]; exact h0
  · by_cases hi : i < ads.length
    · rw [List.getElem?_append_left hi] at e
      obtain ⟨o', d', a1, a2⟩ := I.occ i a e
      refine ⟨o', d', ?_, a2⟩
      show (S.found ++ [o])[i]? = _
      rw [List.getElem?_append_left (by rw [← I.len]; exact hi)]; exact a1
    · rw [List.getElem?_append_right (by lia)] at e
      have : i - ads.length = 0 := by
        cases q : i - ads.length with
        | zero => rfl
        | succ m => rw [q] at e; simp at e
      rw [this] at e
      obtain rfl := Option.some.inj e
      refine ⟨o, d, ?_, hn⟩
      show (S.found ++ [o])[i]? = _
      rw [List.getElem?_append_right (by rw [← I.len]; lia), ← I.len, this]; rfl
  · rw [List.nodup_append]
    exact ⟨I.nd, by simp, fun a ha b hb => by simp only [List.mem_singleton.mp hb]; intro z; simp only [z] at ha; exact hna ha⟩
  · show (S.mp j k).map _ = (S.mp j k).map _
    cases e : S.mp j k with
    | none => rfl
    | some i => simp only [Option.map_some]; rw [rfA_app (I.bd j k i e)]
  · have := I.bd j k i e; simp; lia
theorem IvD.putD (I : IvD J H0 H fl da ads S N) (j : D3) (hj : J j) {k : Int} {i : Nat} {o : AO} (hi : i < ads.length) (ho : ∀ C d fs, o ≠ .inst C d fs) (h : IsV (H.set (da j) o) (da j) (updM (fun k => (S.mp j k).map (rfA ads)) k (some (rfA ads i))) (N + 1)) :
    IvD J H0 (H.set (da j) o) fl da ads (S.put j k i) (N + 1) := by
  obtain ⟨ob, e1, e2, e3, e4⟩ := (I.dict j hj).obj
  refine ⟨I.le.set (I.fda j hj), I.wf.upd e1 ho e3, I.ffl, I.fda, I.fad, I.len, fun i a e => ?_, I.nd, fun j' hj' => ?_, fun j' k' i' e => ?_, I.inj⟩
  · obtain ⟨o', d, a1, a2⟩ := I.occ i a e
    refine ⟨o', d, a1, ?_⟩
    rw [AH.set_ne]
    · exact a2
    · intro z; rw [z, e1] at a2; exact e2 _ _ _ (Option.some.inj a2)
  · by_cases q : j' = j
    · subst q
      refine h.congr fun k' => ?_
      simp only [Iv.put, if_true, updM]
      split <;> rfl
    · have : da j' ≠ da j := fun z => q (I.inj _ _ hj' hj z)
      refine ((I.dict j' hj').mono (Nat.le_succ N)).keep (fun o e => by rw [AH.set_ne _ _ this]; exact e) |>.congr fun k' => ?_
      simp only [Iv.put, q, if_false]
  · simp only [Iv.put] at e
    by_cases q : j' = j
    · subst q
      simp only [if_true, updM] at e
      split at e
      · obtain rfl := Option.some.inj e; exact hi
      · exact I.bd j' k' i' e
    · simp only [q, if_false] at e; exact I.bd j' k' i' e
theorem IvD.stopD (I : IvD J H0 H fl da ads S N) {i : Nat} {a d : Addr} {o : Occ} (ha : ads[i]? = some a) (hf : S.found[i]? = some o) (h : H a = some (.inst 217 d o.fs)) (at' : Int) :
    IvD J H0 (H.set a (.inst 217 d (Occ.fs { o with stop := at' }))) fl da ads (S.stop i at') N := by
  have am : a ∈ ads := List.mem_of_getElem? ha
  have hs : (S.stop i at').found = S.found.set i { o with stop := at' } := by simp [Iv.stop, stopAt, hf]
  refine ⟨I.le.set (I.fad a am), I.wf.own h, I.ffl, I.fda, I.fad, by simp only [hs, List.length_set]; exact I.len, fun i' a' e => ?_, I.nd, fun j hj => (I.dict j hj).keep fun o e => ?_, I.bd, I.inj⟩
  · rw [hs]
    by_cases q : i' = i
    · subst q
      rw [ha] at e; obtain rfl := Option.some.inj e
      refine ⟨_, d, ?_, AH.set_self ..⟩
      rw [List.getElem?_set_self (by simp only [← I.len]; exact (List.getElem?_eq_some_iff.mp ha).1)]
    · obtain ⟨o', d', a1, a2⟩ := I.occ i' a' e
      refine ⟨o', d', by rw [List.getElem?_set_ne (Ne.symm q)]; exact a1, ?_⟩
      rw [AH.set_ne]
      · exact a2
      · intro z; subst z
        exact q (nodup_inj I.nd e ha)
  · rw [AH.set_ne]
    · exact e
    · intro z
      obtain ⟨o', e', h1, _⟩ := (I.dict j hj).obj
      rw [z, h] at e'; exact h1 _ _ _ (Option.some.inj e').symm
theorem IvD.clrD (I : IvD J H0 H fl da ads S N) (j : D3) {n : Addr} (hn : H n = none) : IvD (fun j' => j' = j ∨ J j') H0 (H.set n (.dictE 0)) fl (fun j' => if j' = j then n else da j') ads (S.clr j) N := by
  have l : Le H (H.set n (.dictE 0)) := (Le.refl H).set hn
  have nda : ∀ j, J j → da j ≠ n := fun j hj => by
    obtain ⟨o, e, _⟩ := (I.dict j hj).obj
    exact AH.ne_of e hn
  have I' := I.ext l (I.wf.new hn)
  refine ⟨I'.le, I'.wf, I'.ffl, fun j' hj' => ?_, I'.fad, I'.len, I'.occ, I'.nd, fun j' hj' => ?_, fun j' k i e => ?_, fun i i' hi hi' e => ?_⟩
  · by_cases q : j' = j
    · simp only [q, if_true]; exact I.le.none hn
    · simp only [q, if_false]; exact I.fda j' (hj'.resolve_left q)
  · by_cases q : j' = j
    · simp only [q, if_true, Iv.clr]; exact (IsV.empty (AH.set_self ..)).mono (Nat.zero_le _)
    · simp only [q, if_false, Iv.clr]; exact I'.dict j' (hj'.resolve_left q)
  · simp only [Iv.clr] at e
    by_cases q : j' = j
    · simp only [q, if_true] at e; injection e
    · simp only [q, if_false] at e; exact I.bd j' k i e
  · by_cases q : i = j
    · by_cases q' : i' = j
      · simp only [q, q']
      · simp only [q, q', if_true, if_false] at e; exact absurd e.symm (nda _ (hi'.resolve_left q'))
    · by_cases q' : i' = j
      · simp only [q, q', if_true, if_false] at e; exact absurd e (nda _ (hi.resolve_left q))
      · simp only [q, q', if_false] at e; exact I.inj _ _ (hi.resolve_left q) (hi'.resolve_left q') e
theorem IvD.all {J' : D3 → Prop} (I : IvD J H0 H fl da ads S N) (h : ∀ j, J' j → J j) : IvD J' H0 H fl da ads S N :=
  ⟨I.le, I.wf, I.ffl, fun j hj => I.fda j (h j hj), I.fad, I.len, I.occ, I.nd, fun j hj => I.dict j (h j hj), I.bd, fun i j hi hj => I.inj i j (h i hi) (h j hj)⟩
end
end
section
noncomputable def ivOp (at' : Int) (S : Iv) (p : Int × Op) : Iv := match p.2 with
  | .t n => match S.mp .tmp n with
    | none => (S.push ⟨"temp", n, at', at' + 1⟩).put .tmp n S.found.length
    | some i => match S.found[i]? with
      | some o => if o.stop < at' then S.stop i at' else S
      | none => S
  | .a n => if p.1 = 2 then (S.push ⟨"out", n, at', at' + 1⟩).put .out n S.found.length else match S.mp .inc n with
    | some i => S.stop i at'
    | none => S
  | _ => S
open Classical in
noncomputable def endOuts (S : Iv) (at' : Int) : List Occ := S.found.mapIdx fun i o => if ∃ k, S.mp .out k = some i then { o with stop := at' } else o
noncomputable def ivRow (at' : Int) (S : Iv) (r : Row) : Iv := (roles r).foldl (ivOp at') (if ends r then ({ S with found := endOuts S at' } : Iv).clr .out else S)
noncomputable def ivRun : List Row → Int → Iv → Iv
  | [], _, S => S
  | r :: rs, at', S => ivRun rs (at' + 1) (ivRow at' S r)
noncomputable def ivIn (k : Nat) : Iv := { found := (List.range k).map fun (i : Nat) => ⟨"in", (i : Int) + 1, -1, -1⟩, mp := fun j n => if j = .inc ∧ 1 ≤ n ∧ n ≤ k then some (n - 1).toNat else none }
noncomputable def ivals (rows : List Row) (k : Nat) : List Occ := (ivRun rows 0 (ivIn k)).found.filter fun o => decide (o.start < o.stop)
inductive Sp226 (xs : List V) (H : AH) (Q : V → AH → Prop) : Prop
  | of : ∀ (la : Addr) (k : Nat) (rows : List Row), (xs = [.ref la, .int k]) → (H la = some (.list (rows.map Row.v))) → ((∀ r ∈ rows, Row.ok r)) → (rows.length ≤ 1000) → (k ≤ 100) → ((∀ r ∈ rows, ∀ p ∈ roles r, ∀ n, p.2 = .a n → p.1 ≠ 2 → 1 ≤ n ∧ n ≤ k)) → (∀ H' n vs, Le H H' → WF H' → H n = none → H' n = some (.list vs) → Occs H' vs (ivals rows k) → Q (.ref n) H') → Sp226 xs H Q
noncomputable abbrev sp226 : List V → Wp V := Sp226
noncomputable def lb226_1 : Ls → Wp Fl := (zB3 (zG7 (zC3 (zB1 10) (zA5 (V.int 1)) zD5) 4) (zB3 (zG3 (zB4 (zC3 (zC3 (zB1 10) (zA5 (V.int 0)) zD5) (zA5 (V.str (Str.ofString "t"))) wEq)) (zB3 (zG3 (zB4 (zC3 (zB1 4) (zB1 6) (wInB not))) (zB3 (wAsgI (wNew 217 sp207 (zA4 (zA5 (V.str (Str.ofString "temp"))) (zA4 (zB1 4) (zA4 (zB1 7) (zA4 (zC3 (zB1 7) (zA5 (V.int 1)) wAdd) zB5))))) (zB1 6) (zB1 4)) (zB3 (zG1 (zD2 zE1 (zB1 2) zD1 (zA4 (zC3 (zB1 6) (zB1 4) zD5) zB5))) zB6)) (zB3 (zG3 (zB4 (zC3 (zB1 7) (wOne (zC3 (zB1 6) (zB1 4) zD5) (zJ3 (Str.ofString "stop"))) (wInt fun i j => V.bool (decide (j < i))))) (zB3 (wAsgA (zB1 7) (zC3 (zB1 6) (zB1 4) zD5) (Str.ofString "stop")) zB6) zB6) zB6)) zB6) (zB3 (zG3 (wAndB (zB4 (zC3 (zC3 (zB1 10) (zA5 (V.int 0)) zD5) (zA5 (V.str (Str.ofString "a"))) wEq)) (wAndB (zB4 (zC3 (zB1 9) (zA5 (V.int 2)) wEq)) (wTrue true))) (zB3 (wAsgI (wNew 217 sp207 (zA4 (zA5 (V.str (Str.ofString "out"))) (zA4 (zB1 4) (zA4 (zB1 7) (zA4 (zC3 (zB1 7) (zA5 (V.int 1)) wAdd) zB5))))) (zB1 5) (zB1 4)) (zB3 (zG1 (zD2 zE1 (zB1 2) zD1 (zA4 (zC3 (zB1 5) (zB1 4) zD5) zB5))) zB6)) (zB3 (zG3 (zB4 (zC3 (zC3 (zB1 10) (zA5 (V.int 0)) zD5) (zA5 (V.str (Str.ofString "a"))) wEq)) (zB3 (wAsgA (zB1 7) (zC3 (zB1 3) (zB1 4) zD5) (Str.ofString "stop")) zB6) zB6) zB6)) zB6)) zB6))
noncomputable def lb226_2 : Ls → Wp Fl := (zB3 (wAsgA (zB1 7) (zC3 (zB1 5) (zB1 4) zD5) (Str.ofString "stop")) zB6)
noncomputable def lb226_3 : Ls → Wp Fl := (zB3 (zG3 (zB4 (zD3 sp193 (zA4 (zB1 8) zB5))) (zB3 (wFor (zB1 5) (zG2 4) lb226_2) (zB3 (zG7 wDict 5) zB6)) zB6) (zB3 (wFor (zD3 sp186 (zA4 (zB1 8) zB5)) (wSet2 9 10) lb226_1) (zB3 (wAug 7 (zA5 (V.int 1))) zB6)))
noncomputable def lt226_4 : Ls → Wp Bool := (zB4 (zC3 (zB1 4) (zB1 1) (wInt fun i j => V.bool (decide (i ≤ j)))))
noncomputable def lb226_4 : Ls → Wp Fl := (zB3 (wAsgI (wNew 217 sp207 (zA4 (zA5 (V.str (Str.ofString "in"))) (zA4 (zB1 4) (zA4 (wOne (zA5 (V.int 1)) wNeg) (zA4 (wOne (zA5 (V.int 1)) wNeg) zB5))))) (zB1 3) (zB1 4)) (zB3 (zG1 (zD2 zE1 (zB1 2) zD1 (zA4 (zC3 (zB1 3) (zB1 4) zD5) zB5))) (zB3 (wAug 4 (zA5 (V.int 1))) zB6)))
noncomputable def wb226 : Ls → Wp Fl := (zB3 (zG7 (zF5 zB5) 2) (zB3 (zG7 wDict 3) (zB3 (zG7 (zA5 (V.int 1)) 4) (zB3 (wWhile lt226_4 lb226_4) (zB3 (zG7 wDict 5) (zB3 (zG7 wDict 6) (zB3 (zG7 (zA5 (V.int 0)) 7) (zB3 (wFor (zB1 0) (zG2 8) lb226_3) (zB3 (wRet (wFilt 2 (Str.ofString "stop") (Str.ofString "start"))) zB6)))))))))
theorem lb226_1_ap {l : Ls} {H : AH} {Q : Fl → AH → Prop} : lb226_1 l H Q = (zB3 (zG7 (zC3 (zB1 10) (zA5 (V.int 1)) zD5) 4) (zB3 (zG3 (zB4 (zC3 (zC3 (zB1 10) (zA5 (V.int 0)) zD5) (zA5 (V.str (Str.ofString "t"))) wEq)) (zB3 (zG3 (zB4 (zC3 (zB1 4) (zB1 6) (wInB not))) (zB3 (wAsgI (wNew 217 sp207 (zA4 (zA5 (V.str (Str.ofString "temp"))) (zA4 (zB1 4) (zA4 (zB1 7) (zA4 (zC3 (zB1 7) (zA5 (V.int 1)) wAdd) zB5))))) (zB1 6) (zB1 4)) (zB3 (zG1 (zD2 zE1 (zB1 2) zD1 (zA4 (zC3 (zB1 6) (zB1 4) zD5) zB5))) zB6)) (zB3 (zG3 (zB4 (zC3 (zB1 7) (wOne (zC3 (zB1 6) (zB1 4) zD5) (zJ3 (Str.ofString "stop"))) (wInt fun i j => V.bool (decide (j < i))))) (zB3 (wAsgA (zB1 7) (zC3 (zB1 6) (zB1 4) zD5) (Str.ofString "stop")) zB6) zB6) zB6)) zB6) (zB3 (zG3 (wAndB (zB4 (zC3 (zC3 (zB1 10) (zA5 (V.int 0)) zD5) (zA5 (V.str (Str.ofString "a"))) wEq)) (wAndB (zB4 (zC3 (zB1 9) (zA5 (V.int 2)) wEq)) (wTrue true))) (zB3 (wAsgI (wNew 217 sp207 (zA4 (zA5 (V.str (Str.ofString "out"))) (zA4 (zB1 4) (zA4 (zB1 7) (zA4 (zC3 (zB1 7) (zA5 (V.int 1)) wAdd) zB5))))) (zB1 5) (zB1 4)) (zB3 (zG1 (zD2 zE1 (zB1 2) zD1 (zA4 (zC3 (zB1 5) (zB1 4) zD5) zB5))) zB6)) (zB3 (zG3 (zB4 (zC3 (zC3 (zB1 10) (zA5 (V.int 0)) zD5) (zA5 (V.str (Str.ofString "a"))) wEq)) (zB3 (wAsgA (zB1 7) (zC3 (zB1 3) (zB1 4) zD5) (Str.ofString "stop")) zB6) zB6) zB6)) zB6)) zB6)) l H Q := rfl
theorem lb226_2_ap {l : Ls} {H : AH} {Q : Fl → AH → Prop} : lb226_2 l H Q = (zB3 (wAsgA (zB1 7) (zC3 (zB1 5) (zB1 4) zD5) (Str.ofString "stop")) zB6) l H Q := rfl
theorem lb226_3_ap {l : Ls} {H : AH} {Q : Fl → AH → Prop} : lb226_3 l H Q = (zB3 (zG3 (zB4 (zD3 sp193 (zA4 (zB1 8) zB5))) (zB3 (wFor (zB1 5) (zG2 4) lb226_2) (zB3 (zG7 wDict 5) zB6)) zB6) (zB3 (wFor (zD3 sp186 (zA4 (zB1 8) zB5)) (wSet2 9 10) lb226_1) (zB3 (wAug 7 (zA5 (V.int 1))) zB6))) l H Q := rfl
theorem lt226_4_ap {l : Ls} {H : AH} {Q : Bool → AH → Prop} : lt226_4 l H Q = (zB4 (zC3 (zB1 4) (zB1 1) (wInt fun i j => V.bool (decide (i ≤ j))))) l H Q := rfl
theorem lb226_4_ap {l : Ls} {H : AH} {Q : Fl → AH → Prop} : lb226_4 l H Q = (zB3 (wAsgI (wNew 217 sp207 (zA4 (zA5 (V.str (Str.ofString "in"))) (zA4 (zB1 4) (zA4 (wOne (zA5 (V.int 1)) wNeg) (zA4 (wOne (zA5 (V.int 1)) wNeg) zB5))))) (zB1 3) (zB1 4)) (zB3 (zG1 (zD2 zE1 (zB1 2) zD1 (zA4 (zC3 (zB1 3) (zB1 4) zD5) zB5))) (zB3 (wAug 4 (zA5 (V.int 1))) zB6))) l H Q := rfl
theorem wb226_ap {l : Ls} {H : AH} {Q : Fl → AH → Prop} : wb226 l H Q = (zB3 (zG7 (zF5 zB5) 2) (zB3 (zG7 wDict 3) (zB3 (zG7 (zA5 (V.int 1)) 4) (zB3 (wWhile lt226_4 lb226_4) (zB3 (zG7 wDict 5) (zB3 (zG7 wDict 6) (zB3 (zG7 (zA5 (V.int 0)) 7) (zB3 (wFor (zB1 0) (zG2 8) lb226_3) (zB3 (wRet (wFilt 2 (Str.ofString "stop") (Str.ofString "start"))) zB6))))))))) l H Q := rfl
theorem add_int {i j : Int} {H : AH} {Q : V → AH → Prop} : wAdd (.int i) (.int j) H Q = Q (.int (i + j)) H := rfl
theorem neg_int {i : Int} {H : AH} {Q : V → AH → Prop} : wNeg (.int i) H Q = Q (.int (-i)) H := rfl
theorem hA_stop : attrHas 217 "stop" = true := by kernel_rfl
theorem put_stop {H : AH} {a d : Addr} {o : Occ} (h : H a = some (.inst 217 d o.fs)) {i : Int} {Q : Unit → AH → Prop} : wPutA "stop" (.ref a) (.int i) H Q = Q () (H.set a (.inst 217 d (Occ.fs { o with stop := i }))) := by
  rw [put_at h hA_stop]; rfl
theorem at_stop {H : AH} {a d : Addr} {o : Occ} (h : H a = some (.inst 217 d o.fs)) {Q : V → AH → Prop} : zJ3 "stop" (.ref a) H Q = Q (.int o.stop) H := by
  exact at_ h occF_stop rfl
theorem n_str {s : Str} : noBi (.str s) = true := rfl
theorem new_occ {H : AH} (wf : WF H) {n m : Addr} (o : Occ) (ne : n ≠ m) (hn : H n = none) (hm : H m = none) {Q : AH → Prop} (q : ∀ H', Le H H' → WF H' → (∀ b, b ≠ n → b ≠ m → H' b = H b) → H' n = some (.inst 217 m o.fs) → Q H') :
    sp207 [.ref n, .str o.kind, .int o.num, .int o.start, .int o.stop] ((H.set m (.own n)).set n (.inst 217 m [])) fun r H'' => r = .none ∧ Q H'' := by
  refine ⟨n, m, o, rfl, AH.set_self .., by rw [AH.set_ne _ _ ne.symm, AH.set_self], rfl, ?_⟩
  rw [AH.set_set]
  refine q _ (new_keep hm hn) (wf_inst wf hm hn ne) (fun b h1 h2 => ?_) (AH.set_self ..)
  rw [AH.set_ne _ _ h1, AH.set_ne _ _ h2]
structure IvL (J : D3 → Prop) (H0 H : AH) (fl : Addr) (da : D3 → Addr) (ads : List Addr) (S : Iv) (N : Nat) : Prop extends IvD J H0 H fl da ads S N where
  fnd : H fl = some (.list (ads.map V.ref))
  few : ads.length ≤ N
noncomputable def Kl (H0 : AH) (fl : Addr) (H H' : AH) : Prop := ∀ b xs, H b = some (.list xs) → b ≠ fl → H' b = some (.list xs)
theorem Kl.trans {H0 fl H H' H''} (x : Kl H0 fl H H') (y : Kl H0 fl H' H'') : Kl H0 fl H H'' := fun b xs e n => y b xs (x b xs e n) n
theorem Kl.refl (H0 fl H) : Kl H0 fl H H := fun _ _ e _ => e
theorem Kl.le {H0 fl H H'} (l : Le H H') : Kl H0 fl H H' := fun _ _ e _ => l _ _ e
theorem Kl.put {H0 : AH} {fl : Addr} {H : AH} {a : Addr} {o ob : AO} (h : H a = some o) (ho : ∀ xs, o ≠ .list xs) : Kl H0 fl H (H.set a ob) := fun b xs e _ => by
  rw [AH.set_ne]
  · exact e
  · intro z; rw [z, h] at e; exact ho _ (Option.some.inj e)
theorem Kl.fl {H0 : AH} {fl : Addr} {H : AH} {ob : AO} : Kl H0 fl H (H.set fl ob) := fun b xs e n => by rw [AH.set_ne _ _ n]; exact e
theorem IvL.add {J H0 H fl da ads S N} (I : IvL J H0 H fl da ads S N) (hN : N ≤ 10000) {n m : Addr} (o : Occ) (ne : n ≠ m) (hn : H n = none) (hm : H m = none) (j : D3) (hj : J j) (k : Int) {Q : V → AH → Prop}
    (q : ∀ H', IvL J H0 H' fl da (ads ++ [n]) ((S.push o).put j k S.found.length) (N + 1) → Kl H0 fl H H' → Q .none H') :
    sp207 [.ref n, .str o.kind, .int o.num, .int o.start, .int o.stop] ((H.set m (.own n)).set n (.inst 217 m [])) fun r H'' => r = .none ∧ wPutI (.ref (da j)) (.int k) (.ref n) H'' fun _ H3 => zE1 H3 (.ref fl) ∧ zD5 (.ref (da j)) (.int k) H3 fun x H4 => zD1 [.ref fl, x] H4 Q := by
  refine new_occ I.wf o ne hn hm fun H1 l1 wf1 oth h1 => ?_
  have I1 := I.toIvD.ext l1 wf1
  have n0 : H0 n = none := I.le.none hn
  have nads : n ∉ ads := fun h => by
    obtain ⟨i, hi, e⟩ := List.mem_iff_getElem.mp h
    obtain ⟨o', d', _, a2⟩ := I.occ i n (by simp only [List.getElem?_eq_getElem hi, e])
    rw [hn] at a2; injection a2
  have I2 := I1.grow h1 n0 nads
  have f1 := l1 _ _ I.fnd
  refine (I2.dict j hj).put (by lia) fun oo hi hv => ?_
  refine zC5 fun _ hk => ?_
  have hr : some (V.ref n) = some (rfA (ads ++ [n]) ads.length) := by rw [rfA_last]
  simp only [hr] at hv
  have I3 := I2.putD j hj (k := k) (i := ads.length) (by simp) hi hv
  obtain ⟨ob, e1, e2, e3, e4⟩ := (I2.dict j hj).obj
  have nf : fl ≠ da j := fun z => by rw [← z, f1] at e1; exact e4 _ (Option.some.inj e1).symm
  have f2 : (H1.set (da j) oo) fl = some (.list (ads.map V.ref)) := by rw [AH.set_ne _ _ nf]; exact f1
  refine hk ?_
  refine ⟨by rw [ok_list f2]; trivial, (hv.at (v := .ref n) ?_ ?_)⟩
  · unfold updM; rw [if_pos rfl, rfA_last]
  have hlen : ((ads.map V.ref)).length ≤ 1000000 := by simp; have := I.few; lia
  rw [zH3 f2 hlen]
  refine q _ ⟨?_, ?_, ?_⟩ ?_
  · simp only [I.len] at I3; exact I3.setfl f2
  · rw [AH.set_self]; simp
  · have := I.few; simp; lia
  · exact ((Kl.le l1).trans (Kl.put e1 e4)).trans Kl.fl
noncomputable def opL (x0 x1 x4 x8 : V) (fl : Addr) (da : D3 → Addr) (at' : Int) (x9 x10 : Option V) : Ls := [some x0, some x1, some (.ref fl), some (.ref (da .inc)), some x4, some (.ref (da .out)), some (.ref (da .tmp)), some (.int at'), some x8, x9, x10]
theorem IvL.mono {J H0 H fl da ads S N} (I : IvL J H0 H fl da ads S N) {M : Nat} (h : N ≤ M) : IvL J H0 H fl da ads S M := ⟨I.toIvD.mono h, I.fnd, Nat.le_trans I.few h⟩
theorem IvL.stopL {J H0 H fl da ads S N} (I : IvL J H0 H fl da ads S N) {i : Nat} {a d : Addr} {o : Occ} (ha : ads[i]? = some a) (hf : S.found[i]? = some o) (h : H a = some (.inst 217 d o.fs)) (at' : Int) :
    IvL J H0 (H.set a (.inst 217 d (Occ.fs { o with stop := at' }))) fl da ads (S.stop i at') N ∧ Kl H0 fl H (H.set a (.inst 217 d (Occ.fs { o with stop := at' }))) :=
  ⟨⟨I.toIvD.stopD ha hf h at', by rw [AH.set_ne _ _ (fun z => by rw [← z, I.fnd] at h; exact nomatch h)]; exact I.fnd, I.few⟩, Kl.put h (by intro _ q; injection q)⟩
theorem IvD.at {J H0 H fl da ads S N} (I : IvD J H0 H fl da ads S N) {j : D3} {k : Int} {i : Nat} (e : S.mp j k = some i) : ∃ (a d : Addr) (o : Occ), ads[i]? = some a ∧ S.found[i]? = some o ∧ H a = some (.inst 217 d o.fs) ∧ rfA ads i = .ref a := by
  refine zC5 fun _ hk => ?_
  have := I.bd j k i e
  obtain ⟨o, d, h1, h2⟩ := I.occ i ads[i] (by simp [this])
  refine hk ?_
  exact ⟨ads[i], d, o, by simp [this], h1, h2, by simp [rfA, this]⟩
theorem op_step {J H0 H fl da ads S N} (I : IvL J H0 H fl da ads S N) (hJ : ∀ j, J j) (hN : N ≤ 9000) {x0 x1 x4 x8 : V} {at' : Int} (p : Int × Op) (hinc : ∀ n, p.2 = .a n → p.1 ≠ 2 → ∃ i, S.mp .inc n = some i) {K : Fl → AH → Prop}
    (k : ∀ H' ads' x4', IvL J H0 H' fl da ads' (ivOp at' S p) (N + 1) → Kl H0 fl H H' → K (.next (opL x0 x1 x4' x8 fl da at' (some (.int p.1)) (some p.2.v))) H') :
    lb226_1 (opL x0 x1 x4 x8 fl da at' (some (.int p.1)) (some p.2.v)) H K := by
  obtain ⟨ro, o⟩ := p
  dsimp only [opL] at k ⊢
  cases o with
  | t n =>
    dsimp! only [↓it_op, ↓zG5, ↓lb226_1_ap]
    refine (I.dict .tmp (hJ _)).has not ?_
    cases e : S.mp .tmp n with
    | none =>
      intro a m ne ha hm
      refine I.add (by lia) ⟨"temp", n, at', at' + 1⟩ ne ha hm .tmp (hJ _) n fun H' I' l => ?_
      exact k H' _ _ (by simpa only [ivOp, e] using I') l
    | some i =>
      simp only [Option.map_some, Option.isSome_some, Bool.not_true]
      obtain ⟨a, d, o, h1, h2, h3, h4⟩ := I.toIvD.at e
      have look1 : (S.mp .tmp n).map (rfA ads) = some (.ref a) := by rw [e, ← h4]; rfl
      refine (I.dict .tmp (hJ _)).at look1 ?_
      by_cases lt : o.stop < at'
      · simp! only [↓at_stop h3, ↓gt_t lt]
        refine (I.dict .tmp (hJ _)).at look1 ?_
        simp! only [↓put_stop h3]
        obtain ⟨I', l⟩ := I.stopL h1 h2 h3 at'
        exact k _ _ _ (by simpa only [ivOp, e, h2, lt, if_true] using I'.mono (Nat.le_succ N)) l
      · simp! only [↓at_stop h3, ↓gt_f lt]
        exact k _ _ _ (by simpa only [ivOp, e, h2, lt, if_false] using I.mono (Nat.le_succ N)) (Kl.refl _ _ _)
  | a n =>
    by_cases hro : ro = 2
    · dsimp! only [↓it_op, ↓zG5, ↓lb226_1_ap, ↓eq_t hro, ↓wNew, ↓add_int]
      intro a m ne ha hm
      refine I.add (by lia) ⟨"out", n, at', at' + 1⟩ ne ha hm .out (hJ _) n fun H' I' l => ?_
      exact k H' _ _ (by simpa only [ivOp, hro, if_true] using I') l
    · dsimp! only [↓it_op, ↓zG5, ↓lb226_1_ap, ↓eq_f hro]
      refine zC5 fun _ hk => ?_
      obtain ⟨i, e⟩ := hinc n rfl hro
      obtain ⟨a, d, o, h1, h2, h3, h4⟩ := I.toIvD.at e
      have look1 : (S.mp .inc n).map (rfA ads) = some (.ref a) := by rw [e, ← h4]; rfl
      refine hk ?_
      refine (I.dict .inc (hJ _)).at look1 ?_
      simp! only [↓put_stop h3]
      obtain ⟨I', l⟩ := I.stopL h1 h2 h3 at'
      exact k _ _ _ (by simpa only [ivOp, e, hro, if_false] using I'.mono (Nat.le_succ N)) l
  | y n =>
    dsimp! only [↓it_op, ↓zG5, ↓lb226_1_ap]
    exact k _ _ _ (I.mono (Nat.le_succ N)) (Kl.refl _ _ _)
  | x n =>
    dsimp! only [↓it_op, ↓zG5, ↓lb226_1_ap]
    exact k _ _ _ (I.mono (Nat.le_succ N)) (Kl.refl _ _ _)
end
section
theorem ivOp_ind {at' : Int} {S : Iv} {P : Iv → Prop} (h1 : ∀ o j n, j ≠ .inc → P ((S.push o).put j n S.found.length)) (h2 : ∀ i, P (S.stop i at')) (h3 : P S) (p : Int × Op) : P (ivOp at' S p) := by
  obtain ⟨ro, o⟩ := p
  cases o with
  | t n =>
    unfold ivOp
    dsimp only
    cases S.mp .tmp n with
    | none => exact h1 _ _ _ nofun
    | some i =>
      dsimp only
      cases S.found[i]? with
      | none => exact h3
      | some o =>
        dsimp only
        by_cases l : o.stop < at'
        · rw [if_pos l]; exact h2 i
        · rw [if_neg l]; exact h3
  | a n =>
    unfold ivOp
    dsimp only
    by_cases z : ro = 2
    · rw [if_pos z]; exact h1 _ _ _ nofun
    · rw [if_neg z]
      cases S.mp .inc n with
      | none => exact h3
      | some i => exact h2 i
  | _ => exact h3
theorem ivOp_inc (at' : Int) (S : Iv) (p : Int × Op) : (ivOp at' S p).mp .inc = S.mp .inc :=
  ivOp_ind (P := fun T => T.mp .inc = S.mp .inc) (fun _ _ _ h => if_neg h.symm) (fun _ => rfl) rfl p
noncomputable abbrev All3 : D3 → Prop := fun _ => True
theorem op_loop {H0 : AH} {fl nl : Addr} {da : D3 → Addr} {x0 x1 x8 : V} {at' : Int} {xs : List V} (src : Src) (hs : src = .list nl xs) (hnl : nl ≠ fl) (K : Fl → AH → Prop) :
    ∀ (ps : List (Int × Op)) (S : Iv) (H : AH) (ads : List Addr) (N : Nat) (x4 : V) (x9 x10 : Option V), IvL All3 H0 H fl da ads S N → N + ps.length ≤ 9000 → H nl = some (.list xs) →
    (∀ p ∈ ps, ∀ n, p.2 = .a n → p.1 ≠ 2 → ∃ i, S.mp .inc n = some i) →
    (∀ H' ads' x4' x9' x10', IvL All3 H0 H' fl da ads' (ps.foldl (ivOp at') S) (N + ps.length) → Kl H0 fl H H' → K (.next (opL x0 x1 x4' x8 fl da at' x9' x10')) H') →
    wLoop src (wSet2 9 10) lb226_1 (ps.map roleV) (opL x0 x1 x4 x8 fl da at' x9 x10) H K
  | [], S, H, ads, N, x4, x9, x10, I, hN, hn, hinc, k => k H ads x4 x9 x10 I (Kl.refl _ _ _)
  | p :: ps, S, H, ads, N, x4, x9, x10, I, hN, hn, hinc, k => by
    have ih := op_loop (H0 := H0) (da := da) (x0 := x0) (x1 := x1) (x8 := x8) (at' := at') src hs hnl K ps
    simp only [List.length_cons] at hN
    simp only [List.map_cons, lp_cons, set_role]
    refine op_step I (fun _ => trivial) (by lia) p (hinc p (.head _)) fun H' ads' x4' I' l => ?_
    have hn' := l _ _ hn hnl
    refine ⟨by subst hs; exact hn', ?_⟩
    refine ih _ H' ads' (N + 1) x4' _ _ I' (by lia) hn' (fun q hq n e1 e2 => ?_) (fun H'' ads'' y4 y9 y10 I'' l' => ?_)
    · rw [ivOp_inc]; exact hinc q (.tail _ hq) n e1 e2
    · exact k H'' ads'' y4 y9 y10 (by simp only [show N + (p :: ps).length = N + 1 + ps.length by simp; lia]; exact I'') (l.trans l')
open Classical in
theorem end_loop {H0 : AH} {fl : Addr} {da : D3 → Addr} {ads : List Addr} {x0 x1 x8 : V} {at' : Int} {x9 x10 : Option V} {ep : Nat} {es : List (Int × V)} {S0 : Iv} (hes : ∀ k, look es k = (S0.mp .out k).map (rfA ads)) (K : Fl → AH → Prop) :
    ∀ (ps : List (Int × V)) (ks : List Int) (S : Iv) (H : AH) (N : Nat) (x4 : V), (∀ p ∈ ps, p ∈ es) → S.mp = S0.mp → IvL All3 H0 H fl da ads S N → Still H (.dict (da .out) ep es) →
    (∀ i, S.found[i]? = (S0.found[i]?).map fun o => if ∃ k ∈ ks, S0.mp .out k = some i then { o with stop := at' } else o) →
    (∀ H' S' x4', S'.mp = S0.mp → IvL All3 H0 H' fl da ads S' N → Kl H0 fl H H' → (∀ i, S'.found[i]? = (S0.found[i]?).map fun o => if ∃ k ∈ ps.map (·.1) ++ ks, S0.mp .out k = some i then { o with stop := at' } else o) → K (.next (opL x0 x1 x4' x8 fl da at' x9 x10)) H') →
    wLoop (.dict (da .out) ep es) (zG2 4) lb226_2 (ps.map fun p => .int p.1) (opL x0 x1 x4 x8 fl da at' x9 x10) H K
  | [], ks, S, H, N, x4, sub, em, I, st, hf, k => k H S x4 em I (Kl.refl _ _ _) hf
  | p :: ps, ks, S, H, N, x4, sub, em, I, st, hf, k => by
    have ih := end_loop (H0 := H0) (fl := fl) (da := da) (ads := ads) (x0 := x0) (x1 := x1) (x8 := x8) (at' := at') (x9 := x9) (x10 := x10) (ep := ep) hes K ps
    rw [List.map_cons, lp_cons]
    have h1 := look_key (sub p (.head _))
    rw [hes] at h1
    obtain ⟨i, e⟩ : ∃ i, S0.mp .out p.1 = some i := by
      cases q : S0.mp .out p.1 with
      | none => rw [q] at h1; injection h1
      | some i => exact ⟨i, rfl⟩
    have e' : S.mp .out p.1 = some i := by rw [em]; exact e
    obtain ⟨a, d, o, g1, g2, g3, g4⟩ := I.toIvD.at e'
    have look1 : (S.mp .out p.1).map (rfA ads) = some (.ref a) := by rw [e', ← g4]; rfl
    simp! only [↓lb226_2_ap]
    refine (I.dict .out trivial).at look1 ?_
    simp! only [↓put_stop g3]
    obtain ⟨I', l⟩ := I.stopL g1 g2 g3 at'
    have st' : Still (H.set a (.inst 217 d (Occ.fs { o with stop := at' }))) (.dict (da .out) ep es) := by
      have : da .out ≠ a := fun z => by
        obtain ⟨oo, o1, o2, _⟩ := (I.dict .out trivial).obj
        rw [z, g3] at o1; exact o2 _ _ _ (Option.some.inj o1).symm
      show _ ∨ _
      rw [AH.set_ne _ _ this]; exact st
    refine ⟨st', ih (p.1 :: ks) (S.stop i at') _ N (.int p.1) (fun x hx => sub x (.tail _ hx)) em I' st' (fun i' => ?_) (fun H' S' x4' q1 q2 q3 q4 => k H' S' x4' q1 q2 (l.trans q3) fun i' => ?_)⟩
    · have hs : (S.stop i at').found = S.found.set i { o with stop := at' } := by simp [Iv.stop, stopAt, g2]
      rw [hs]
      have g2' := hf i
      rw [g2] at g2'
      by_cases q : i' = i
      · subst q
        rw [List.getElem?_set_self (List.getElem?_eq_some_iff.mp g2).1]
        cases z : S0.found[i']? with
        | none => rw [z] at g2'; injection g2'
        | some o0 =>
          rw [z] at g2'
          have : ∃ k ∈ p.1 :: ks, S0.mp .out k = some i' := ⟨p.1, .head _, e⟩
          simp only [Option.map_some, this, if_true]
          simp only [Option.map_some, Option.some.injEq] at g2'
          rw [g2']
          split <;> rfl
      · rw [List.getElem?_set_ne (Ne.symm q), hf i']
        congr 1
        funext o'
        have : (∃ k ∈ p.1 :: ks, S0.mp .out k = some i') ↔ ∃ k ∈ ks, S0.mp .out k = some i' := by
          constructor
          · rintro ⟨k, hk, e2⟩
            rcases List.mem_cons.mp hk with rfl | hk
            · rw [e] at e2; exact absurd (Option.some.inj e2).symm q
            · exact ⟨k, hk, e2⟩
          · rintro ⟨k, hk, e2⟩; exact ⟨k, .tail _ hk, e2⟩
        simp only [this]
    · rw [q4 i']
      congr 1
      funext o'
      have : (∃ k ∈ ps.map (·.1) ++ p.1 :: ks, S0.mp .out k = some i') ↔ ∃ k ∈ (p :: ps).map (·.1) ++ ks, S0.mp .out k = some i' := by
        constructor
        · rintro ⟨k, hk, e2⟩
          refine ⟨k, ?_, e2⟩
          simp only [List.mem_append, List.mem_cons, List.map_cons] at hk ⊢
          rcases hk with hk | hk | hk
          · exact .inl (.inr hk)
          · exact .inl (.inl hk)
          · exact .inr hk
        · rintro ⟨k, hk, e2⟩
          refine ⟨k, ?_, e2⟩
          simp only [List.mem_append, List.mem_cons, List.map_cons] at hk ⊢
          rcases hk with (hk | hk) | hk
          · exact .inr (.inl hk)
          · exact .inl hk
          · exact .inr (.inr hk)
      simp only [this]
end
section
theorem IvL.ext {J H0 H fl da ads S N} (I : IvL J H0 H fl da ads S N) {H' : AH} (l : Le H H') (wf : WF H') : IvL J H0 H' fl da ads S N := ⟨I.toIvD.ext l wf, l _ _ I.fnd, I.few⟩
noncomputable def opLo (x0 x1 x4 : V) (x8 : Option V) (fl : Addr) (da : D3 → Addr) (at' : Int) (x9 x10 : Option V) : Ls := [some x0, some x1, some (.ref fl), some (.ref (da .inc)), some x4, some (.ref (da .out)), some (.ref (da .tmp)), some (.int at'), x8, x9, x10]
noncomputable def ivPre (at' : Int) (S : Iv) (r : Row) : Iv := if ends r then ({ S with found := endOuts S at' } : Iv).clr .out else S
theorem ivPre_inc (at' : Int) (S : Iv) (r : Row) : (ivPre at' S r).mp .inc = S.mp .inc := by
  unfold ivPre; split <;> simp [Iv.clr]
theorem fold_inc (at' : Int) : ∀ (ps : List (Int × Op)) (S : Iv), (ps.foldl (ivOp at') S).mp .inc = S.mp .inc := by
  intro zz
  induction zz with
  | nil =>
    intro S
    exact rfl
  | cons p ps ih =>
    intro S
    simp only [List.foldl_cons, ih, ivOp_inc]
theorem ivRow_inc (at' : Int) (S : Iv) (r : Row) : (ivRow at' S r).mp .inc = S.mp .inc := (fold_inc ..).trans (ivPre_inc ..)
theorem all_of (j' : D3) : ∀ j, All3 j → (j = j' ∨ All3 j) := fun _ _ => .inr trivial
theorem row_rest {H0 H1 : AH} {fl : Addr} {da : D3 → Addr} {ads : List Addr} {x0 x1 x4 : V} {r : Row} {at' : Int} {x9 x10 : Option V} {S1 : Iv} {N : Nat} (ok : r.ok) (I : IvL All3 H0 H1 fl da ads S1 N) (hN : N + 2 ≤ 9000)
    (hinc : ∀ p ∈ roles r, ∀ n, p.2 = .a n → p.1 ≠ 2 → ∃ i, S1.mp .inc n = some i) (K : Fl → AH → Prop)
    (k : ∀ H' ads' x4' x9' x10', IvL All3 H0 H' fl da ads' ((roles r).foldl (ivOp at') S1) (N + 2) → K (.next (opLo x0 x1 x4' (some r.v) fl da (at' + 1) x9' x10')) H') :
    zB3 (wFor (zD3 sp186 (zA4 (zB1 8) zB5)) (wSet2 9 10) lb226_1) (zB3 (wAug 7 (zA5 (V.int 1))) zB6) (opLo x0 x1 x4 (some r.v) fl da at' x9 x10) H1 K := by
  refine ⟨r, rfl, ok, fun nl hn => ?_⟩
  have l : Le H1 (H1.set nl (.list (rolesV r))) := (Le.refl H1).set hn
  have I' := I.ext l (I.wf.new hn)
  refine ⟨.list nl (rolesV r), .list (AH.set_self ..), trivial, ?_⟩
  refine op_loop (xs := rolesV r) (.list nl (rolesV r)) rfl (AH.ne_of I.fnd hn).symm _ (roles r) S1 _ ads N x4 x9 x10 I' (by have := roles_len r; lia) (AH.set_self ..) hinc fun H' ads' x4' x9' x10' I'' l' => ?_
  have := k H' ads' x4' x9' x10' (I''.mono (by have := roles_len r; lia))
  exact this
theorem rows_loop {H0 : AH} {la fl : Addr} {x0 x1 : V} {k : Nat} {rows : List Row} (h0 : H0 la = some (.list (rows.map Row.v))) (ok : ∀ r ∈ rows, Row.ok r) (hk : ∀ r ∈ rows, ∀ p ∈ roles r, ∀ n, p.2 = .a n → p.1 ≠ 2 → 1 ≤ n ∧ n ≤ k)
    (src : Src) (hs : src = .list la (rows.map Row.v)) (K : Fl → AH → Prop) :
    ∀ (rs : List Row) (at' : Int) (S : Iv) (H : AH) (da : D3 → Addr) (ads : List Addr) (N : Nat) (x4 : V) (x8 x9 x10 : Option V), (∀ r ∈ rs, r ∈ rows) → IvL All3 H0 H fl da ads S N → N + 2 * rs.length ≤ 9000 → (∀ n : Int, 1 ≤ n → n ≤ k → ∃ i, S.mp .inc n = some i) →
    (∀ H' da' ads' N' ls, IvL All3 H0 H' fl da' ads' (ivRun rs at' S) N' → N' ≤ 9000 → K (.next (some x0 :: some x1 :: some (.ref fl) :: ls)) H') →
    wLoop src (zG2 8) lb226_3 (rs.map Row.v) (opLo x0 x1 x4 x8 fl da at' x9 x10) H K := by
  intro zz
  induction zz with
  | nil =>
    intro at' S H da ads N x4 x8 x9 x10 sub I hN hinc q
    exact q H da ads N _ I (by simpa using hN)
  | cons r rs ih =>
    intro at' S H da ads N x4 x8 x9 x10 sub I hN hinc q
    have okr := ok r (sub r (.head _))
    have sub' : ∀ x ∈ rs, x ∈ rows := fun x hx => sub x (.tail _ hx)
    have hkr := hk r (sub r (.head _))
    simp only [List.length_cons] at hN
    have rest : ∀ (H1 : AH) (da1 : D3 → Addr) (x4 : V), IvL All3 H0 H1 fl da1 ads (ivPre at' S r) N → zB3 (wFor (zD3 sp186 (zA4 (zB1 8) zB5)) (wSet2 9 10) lb226_1) (zB3 (wAug 7 (zA5 (V.int 1))) zB6) (opLo x0 x1 x4 (some r.v) fl da1 at' x9 x10) H1 (fun f H'' => match f with
        | .next l'' => Still H'' src ∧ wLoop src (zG2 8) lb226_3 (rs.map Row.v) l'' H'' K
        | .cont l'' => Still H'' src ∧ wLoop src (zG2 8) lb226_3 (rs.map Row.v) l'' H'' K
        | .brk l'' => K (.next l'') H''
        | .ret v => K (.ret v) H'') := fun H1 da1 x4 I1 => by
      refine row_rest okr I1 (by lia) (fun p hp n e1 e2 => ?_) _ fun H' ads' x4' x9' x10' I' => ?_
      · rw [ivPre_inc]; obtain ⟨a1, a2⟩ := hkr p hp n e1 e2; exact hinc n a1 a2
      · refine ⟨by subst hs; exact I'.le _ _ h0, ?_⟩
        refine ih (at' + 1) _ H' da1 ads' (N + 2) x4' _ _ _ sub' I' (by lia) (fun n a1 a2 => ?_) fun H'' da' ads'' N' ls I'' b => ?_
        · rw [fold_inc, ivPre_inc]; exact hinc n a1 a2
        · exact q H'' da' ads'' N' ls I'' b
    show zB3 (zG3 (zB4 (zD3 sp193 (zA4 (zB1 8) zB5))) (zB3 (wFor (zB1 5) (zG2 4) lb226_2) (zB3 (zG7 wDict 5) zB6)) zB6) (zB3 (wFor (zD3 sp186 (zA4 (zB1 8) zB5)) (wSet2 9 10) lb226_1) (zB3 (wAug 7 (zA5 (V.int 1))) zB6)) (opLo x0 x1 x4 (some r.v) fl da at' x9 x10) H _
    cases he : ends r with
    | false =>
      refine ⟨r, rfl, okr.nm, ?_⟩
      rw [he]
      exact rest H da x4 (by unfold ivPre; rw [he]; exact I)
    | true =>
      refine ⟨r, rfl, okr.nm, ?_⟩
      rw [he]
      refine zC5 fun _ hk => ?_
      obtain ⟨ep, es, g1, g2, g3⟩ := (I.dict .out trivial).src
      refine hk ?_
      refine ⟨.dict (da .out) ep es, g1, trivial, ?_⟩
      refine end_loop (H0 := H0) (fl := fl) (da := da) (ads := ads) (x0 := x0) (x1 := x1) (x8 := r.v) (at' := at') (x9 := x9) (x10 := x10) (ep := ep) (S0 := S) g3 _ es [] S H N x4 (fun _ h => h) rfl I g2 (fun i => ?_) fun H' S' x4' e1 I' l e2 => ?_
      · cases S.found[i]? with
        | none => rfl
        | some o => simp
      · intro n hn
        have I2 := I'.toIvD.clrD .out hn
        have l2 : Le H' (H'.set n (.dictE 0)) := (Le.refl H').set hn
        have hS : S' = { S with found := endOuts S at' } := by
          obtain ⟨fd, mp⟩ := S'
          simp only at e1
          congr 1
          apply List.ext_getElem?
          intro i
          rw [e2 i]
          unfold endOuts
          simp only [List.getElem?_mapIdx]
          congr 1
          funext o
          have : (∃ k ∈ es.map (·.1) ++ [], S.mp .out k = some i) ↔ ∃ k, S.mp .out k = some i := by
            constructor
            · rintro ⟨k, _, e⟩; exact ⟨k, e⟩
            · rintro ⟨k, e⟩
              have h1 : look es k = some (rfA ads i) := by simp only [g3, e]; rfl
              obtain ⟨p, hp, hk'⟩ := look_mem h1
              exact ⟨k, by rw [List.append_nil]; exact List.mem_map.mpr ⟨p, hp, hk'⟩, e⟩
          by_cases hx : ∃ k, S.mp .out k = some i
          · rw [if_pos hx, if_pos (this.mpr hx)]
          · rw [if_neg hx, if_neg (fun h => hx (this.mp h))]
        have I3 : IvL All3 H0 (H'.set n (.dictE 0)) fl (fun j' => if j' = .out then n else da j') ads (ivPre at' S r) N := by
          refine ⟨?_, l2 _ _ I'.fnd, I'.few⟩
          unfold ivPre
          rw [he, if_pos rfl, ← hS]
          exact I2.all (all_of _)
        exact rest _ (fun j' => if j' = .out then n else da j') x4' I3
theorem in_loop {H0 : AH} {x0 : V} {k : Nat} {fl : Addr} {da : D3 → Addr} (hk : k ≤ 100) (K : Fl → AH → Prop) (q : ∀ H' ads x4, IvL (fun j => j = .inc) H0 H' fl da ads (ivIn k) k → K (.next [some x0, some (.int k), some (.ref fl), some (.ref (da .inc)), some x4, none, none, none, none, none, none]) H') :
    ∀ (m i : Nat) (H : AH) (ads : List Addr), i + m = k → IvL (fun j => j = .inc) H0 H fl da ads (ivIn i) i →
    wWhileN lt226_4 lb226_4 (m + 1) [some x0, some (.int k), some (.ref fl), some (.ref (da .inc)), some (.int (i + 1)), none, none, none, none, none, none] H K := by
  intro m
  induction m with
  | zero =>
    intro i H ads e I
    have : i = k := by lia
    subst this
    simp only [wh_succ]
    simp! only [↓lt226_4_ap, ↓le_f (show ¬ ((i : Int) + 1 ≤ (i : Int)) by lia)]
    exact q _ _ _ I
  | succ m ih =>
    intro i H ads e I
    simp only [wh_succ]
    simp! only [↓lt226_4_ap, ↓le_t (show ((i : Int) + 1 ≤ (k : Int)) by lia)]
    simp! only [↓lb226_4_ap, ↓wNew, ↓neg_int]
    intro n d ne hn hd
    refine I.add (by lia) ⟨"in", (i : Int) + 1, -1, -1⟩ ne hn hd .inc rfl ((i : Int) + 1) fun H' I' l => ?_
    have e' : (((ivIn i).push ⟨"in", (i : Int) + 1, -1, -1⟩).put .inc ((i : Int) + 1) (ivIn i).found.length) = ivIn (i + 1) := by
      dsimp only [Iv.put, Iv.push, ivIn]
      congr 1
      · simp only [List.range_succ, List.map_append]; rfl
      · funext j z
        rw [List.length_map, List.length_range]
        by_cases hj : j = .inc
        · subst hj
          simp only [if_true, updM, true_and]
          by_cases hz : z = (i : Int) + 1
          · subst hz
            rw [if_pos rfl, if_pos (by lia)]
            congr 1; lia
          · rw [if_neg hz]
            by_cases h1 : 1 ≤ z ∧ z ≤ (i : Int)
            · rw [if_pos h1, if_pos (by lia)]
            · rw [if_neg h1, if_neg (by lia)]
        · simp [hj]
    simp only [e'] at I'
    simp! only []
    have := ih (i + 1) H' _ (by lia) I'
    simpa using this
noncomputable def occP (H2 : AH) (v : V) : Bool := match v with
  | .ref b => (match H2 b with
    | some (.inst _ _ fs) => (match fs.lookup ("stop" : Str), fs.lookup ("start" : Str) with
      | some (.int i), some (.int j) => decide (j < i)
      | _, _ => false)
    | _ => false)
  | _ => false
theorem occP_is {H2 : AH} {b d : Addr} {o : Occ} (h : H2 b = some (.inst 217 d o.fs)) : occP H2 (.ref b) = decide (o.start < o.stop) := by
  simp only [occP, h, Occ.fs, occF_stop, occF_start]
theorem Occs.filter {H : AH} (p : V → Bool) (pp : Occ → Bool) : ∀ {vs os}, Occs H vs os → (∀ v o, IsOcc H v o → p v = pp o) → Occs H (vs.filter p) (os.filter pp)
  | _, _, .nil, _ => .nil
  | _, _, .cons (v := v) (o := o) a b, h => by
    rw [List.filter_cons, List.filter_cons, h v o a]
    split
    · exact .cons a (b.filter p pp h)
    · exact b.filter p pp h
theorem occs_of {H : AH} : ∀ {ads : List Addr} {os : List Occ}, ads.length = os.length → (∀ (i : Nat) (a : Addr), ads[i]? = some a → ∃ (o : Occ) (d : Addr), os[i]? = some o ∧ H a = some (.inst 217 d o.fs)) → Occs H (ads.map V.ref) os := by
  intro zz
  induction zz with
  | nil =>
    intro zz2
    cases zz2 with
    | nil =>
      intro _ _
      exact .nil
    | cons _ _ =>
      intro h _
      injection h
  | cons a ads ih =>
    intro zz2
    cases zz2 with
    | nil =>
      intro h _
      injection h
    | cons o os =>
      intro h f
      obtain ⟨o', d, e1, e2⟩ := f 0 a rfl
      obtain rfl := Option.some.inj e1
      exact .cons ⟨a, d, rfl, e2⟩ (ih (by simpa using h) fun i b e => f (i + 1) b (by simpa using e))
section
variable {c : Cx} (Fn : Fns c.K)
include Fn
theorem rf226 : RF c 3 226 sp226 := by
  have h207 := (rf207 Fn : RF c 1 207 sp207)
  have h193 := ((rf193 Fn).mono (by lia : 1 ≤ 2) : RF c 2 193 sp193)
  have h186 := ((rf186 Fn).mono (by lia : 1 ≤ 2) : RF c 2 186 sp186)
  have hnd : ((["instrs", "arity"] : List Str) ++ (["found", "incoming", "number", "outgoing", "temporaries", "at", "instruction", "role", "operand"] : List Str)).Nodup := by decide
  refine rf_of (ps := (["instrs", "arity"] : List Str)) (rest := (["found", "incoming", "number", "outgoing", "temporaries", "at", "instruction", "role", "operand"] : List Str)) Fn.f226 (zA1 (zD6 2 (zE2 zA7)) (zA1 (zD6 3 re_dict) (zA1 (zD6 4 zB2) (zA1 (rs_while (zC4 (zA3 4) (zA3 1) rv_le) (zA1 (rs_asgI (re_new (C := 217) (f := 207) h207 (zA2 zC6 (zA2 (zA3 4) (zA2 (re_un zB2 rv_neg) (zA2 (re_un zB2 rv_neg) zA7))))) (zA3 3) (zA3 4)) (zA1 (zG6 (zD7 (zA3 2) zF7 (zA2 (zC2 (zA3 3) (zA3 4) zC1) zA7) (gm_list F.slot_list_append) _)) (zA1 (rs_aug 4 zB2) zA6)))) (zA1 (zD6 5 re_dict) (zA1 (zD6 6 re_dict) (zA1 (zD6 7 zB2) (zA1 (rs_for (zA3 0) (tg_name 8) (zA1 (zE5 (rt_of (zE6 (f := 193) h193 (zA2 (zA3 8) zA7))) (zA1 (rs_for (zA3 5) (tg_name 4) (zA1 (rs_asgA (zA3 7) (zC2 (zA3 5) (zA3 4) zC1)) zA6)) (zA1 (zD6 5 re_dict) zA6)) zA6) (zA1 (rs_for (zE6 (f := 186) h186 (zA2 (zA3 8) zA7)) (tg_two 9 10) (zA1 (zD6 4 (zC2 (zA3 10) zB2 zC1)) (zA1 (zE5 (zC4 (zC2 (zA3 10) zB2 zC1) zC6 zE4) (zA1 (zE5 (zC4 (zA3 4) (zA3 6) rv_notIn) (zA1 (rs_asgI (re_new (C := 217) (f := 207) h207 (zA2 zC6 (zA2 (zA3 4) (zA2 (zA3 7) (zA2 (re_bin (zA3 7) zB2 rv_add) zA7))))) (zA3 6) (zA3 4)) (zA1 (zG6 (zD7 (zA3 2) zF7 (zA2 (zC2 (zA3 6) (zA3 4) zC1) zA7) (gm_list F.slot_list_append) _)) zA6)) (zA1 (zE5 (zC4 (zA3 7) (zF3 (zC2 (zA3 6) (zA3 4) zC1) zF2) rv_gt) (zA1 (rs_asgA (zA3 7) (zC2 (zA3 6) (zA3 4) zC1)) zA6) zA6) zA6)) zA6) (zA1 (zE5 (zH4 (rts_and (zC4 (zC2 (zA3 10) zB2 zC1) zC6 zE4) (rts_and (zC4 (zA3 9) (zF6 2) zE4) rts_nilA))) (zA1 (rs_asgI (re_new (C := 217) (f := 207) h207 (zA2 zC6 (zA2 (zA3 4) (zA2 (zA3 7) (zA2 (re_bin (zA3 7) zB2 rv_add) zA7))))) (zA3 5) (zA3 4)) (zA1 (zG6 (zD7 (zA3 2) zF7 (zA2 (zC2 (zA3 5) (zA3 4) zC1) zA7) (gm_list F.slot_list_append) _)) zA6)) (zA1 (zE5 (zC4 (zC2 (zA3 10) zB2 zC1) zC6 zE4) (zA1 (rs_asgA (zA3 7) (zC2 (zA3 3) (zA3 4) zC1)) zA6) zA6) zA6)) zA6)) zA6))) (zA1 (rs_aug 7 zB2) zA6)))) (zA1 (zD4 (re_filt 2)) zA6))))))))) ?_ (fun pm cd => len2 (fun _ _ => by rfl))
  rintro xs H Q wf ⟨la, k, rows, rfl, h0, ok, hl, hk, hr, q⟩
  refine ⟨rfl, ?_⟩
  show wBody _ [some _, some _, none, none, none, none, none, none, none, none, none] _ _
  simp! only [↓wb226_ap]
  refine ⟨by lia, fun fl hfl => ?_⟩
  intro fi hfi
  have l1 : Le H (H.set fl (.list [])) := (Le.refl H).set hfl
  have wf1 : WF (H.set fl (.list [])) := wf.new hfl
  have l2 : Le (H.set fl (.list [])) ((H.set fl (.list [])).set fi (.dictE 0)) := (Le.refl _).set hfi
  have wf2 := wf1.new (o := .dictE 0) hfi
  have I0 : IvL (fun j => j = .inc) H ((H.set fl (.list [])).set fi (.dictE 0)) fl (fun _ => fi) [] (ivIn 0) 0 := by
    refine ⟨⟨l1.trans l2, wf2, hfl, fun _ _ => l1.none hfi, (fun _ h => by cases h), rfl, (fun i a e => by simp at e), .nil, fun j hj => ?_, (fun j k i e => ?_), (fun i j hi hj _ => hi.trans hj.symm)⟩, l2 _ _ (AH.set_self ..), Nat.le_refl _⟩
    · refine (IsV.empty (AH.set_self ..)).congr fun z => ?_
      simp [ivIn]; lia
    · simp [ivIn] at e; lia
  refine ⟨k + 1, in_loop hk _ (fun H1 ads x4 I => ?_) k 0 _ [] (by lia) I0⟩
  intro fo hfo
  have I1 := I.toIvD.clrD .out hfo
  intro ft hft
  have I2 := I1.clrD .tmp hft
  have l3 : Le H1 ((H1.set fo (.dictE 0)).set ft (.dictE 0)) := ((Le.refl H1).set hfo).trans ((Le.refl _).set hft)
  have eS : ((ivIn k).clr .out).clr .tmp = ivIn k := by
    dsimp only [Iv.clr, ivIn]
    congr 1
    funext j z
    cases j <;> simp
  rw [eS] at I2
  have I3 : IvL All3 H ((H1.set fo (.dictE 0)).set ft (.dictE 0)) fl (fun j' => if j' = .tmp then ft else if j' = .out then fo else fi) ads (ivIn k) k :=
    ⟨I2.all fun j _ => by cases j <;> simp, l3 _ _ I.fnd, I.few⟩
  have la3 := (I3.le _ _ h0)
  refine ⟨.list la (rows.map Row.v), .list (la3), trivial, ?_⟩
  refine rows_loop (fl := fl) (x0 := .ref la) (x1 := .int k) h0 ok hr (.list la (rows.map Row.v)) rfl _ rows 0 (ivIn k) _ _ ads k x4 none none none (fun _ h => h) I3 (by lia) (fun n h1 h2 => ⟨(n - 1).toNat, by simp [ivIn, h1, h2]⟩) fun H2 da' ads' N' ls I4 hN' => ?_
  simp! only [↓wFilt]
  have oc := occs_of I4.len I4.occ
  refine ⟨fl, ads'.map V.ref, occP H2, rfl, I4.fnd, by have := I4.few; simp; lia, fun y hy => ?_, fun n hn => ?_⟩
  · refine zC5 fun _ hk => ?_
    obtain ⟨b, hb, rfl⟩ := List.mem_map.mp hy
    obtain ⟨i, hi, e⟩ := List.mem_iff_getElem.mp hb
    obtain ⟨o, d, a1, a2⟩ := I4.occ i b (by simp only [List.getElem?_eq_getElem hi, e])
    refine hk ?_
    refine ⟨b, 217, d, o.fs, o.stop, o.start, rfl, a2, occF_stop, occF_start, ?_⟩
    exact occP_is a2
  · have ln : Le H2 (H2.set n (.list ((ads'.map V.ref).filter (occP H2)))) := (Le.refl H2).set hn
    refine zB7 (I4.wf.new hn) (q _ n _ (I4.le.trans ln) (I4.wf.new hn) (I4.le.none hn) (AH.set_self ..) ?_)
    have := (oc.filter (occP H2) (fun o => decide (o.start < o.stop)) fun v o h => ?_)
    · exact this.keep fun b C d fs e => ln _ _ e
    · obtain ⟨a, d, rfl, e⟩ := h
      exact occP_is e
end
end
section
noncomputable def AH.del (H : AH) : AH := fun b => if b = 284 then some (.tab false) else H b
theorem AH.del_ne (H : AH) {b : Addr} (h : b ≠ 284) : H.del b = H b := by simp [AH.del, h]
theorem AH.del_tab (H : AH) : H.del 284 = some (.tab false) := by simp [AH.del]
theorem AH.del_none (H : AH) {b : Addr} {x : AO} (ht : H 284 = some x) (h : H b = none) : H.del b = none := by
  rw [AH.del_ne]
  · exact h
  · intro z; rw [z, ht] at h; injection h
theorem AH.del_some {H : AH} {b : Addr} {o : AO} (h : H b = some o) (ne : ∀ x, o ≠ .tab x) (ht : H 284 = some (.tab true)) : H.del b = some o := by
  rw [AH.del_ne]
  · exact h
  · intro z; rw [z, ht] at h; exact ne true (Option.some.inj h).symm
inductive Sp289 (xs : List V) (H : AH) (Q : V → AH → Prop) : Prop
  | of : ∀ (la : Addr) (vs : List V) (os : List Occ), (xs = [.ref la]) → (H la = some (.list vs)) → (1 ≤ vs.length) → (vs.length < 64) → (Occs H vs os) → (H 284 = some (.tab true)) → (∀ n vs', H n = none → vs'.Perm vs → Q (.ref n) ((H.set 284 (.tab false)).set n (.list vs'))) → Sp289 xs H Q
noncomputable abbrev sp289 : List V → Wp V := Sp289
noncomputable def zE3 (f : IM) (r : Row) : Row := ⟨r.nm, r.ps.map (realPt f)⟩
noncomputable def zF1 (o : Occ) : Bool := decide (o.kind = "temp")
noncomputable def temps (os : List Occ) : List Occ := os.filter zF1
structure AllocPre (rows : List Row) (k : Nat) : Prop where
  ok : ∀ r ∈ rows, Row.ok r
  len : rows.length ≤ 1000
  few : ∀ r ∈ rows, r.ps.length ≤ 10
  k6 : k ≤ 6
  reads : ∀ r ∈ rows, ∀ p ∈ roles r, ∀ n, p.2 = .a n → p.1 ≠ 2 → 1 ≤ n ∧ n ≤ k
  nums : ∀ o ∈ ivals rows k, zF1 o = false → o.num ≤ 6
  kinds : ∀ o ∈ ivals rows k, PyData.strOk o.kind = true
  olen : (ivals rows k).length ≤ 5000
  nd : ((temps (ivals rows k)).map Occ.num).Nodup
  tfew : (temps (ivals rows k)).length ≤ 50
  tone : 1 ≤ (temps (ivals rows k)).length
  has : ∀ r ∈ rows, ∀ n, Pt.op (.t n) ∈ r.ps → ∃ o ∈ temps (ivals rows k), o.num = n
  small : ∀ r ∈ rows, ∀ p ∈ roles r, (∃ n, p.2 = .t n) ∨ p.2.num ≤ 6
noncomputable def RegR (x y : Occ) : Prop := (zF1 x = true → zF1 y = true) ∧ (zF1 y = true → y.over x = false)
noncomputable def AllocOk (os : List Occ) (hm : IM) : Prop := ∃ O : Int → List Occ, (∀ o ∈ os, zF1 o = false → o ∈ O o.num) ∧ (∀ o ∈ os, zF1 o = true → ∃ r, hm o.num = some r ∧ o ∈ O r) ∧ (∀ r, (O r).Pairwise RegR)
inductive Sp303 (xs : List V) (H : AH) (Q : V → AH → Prop) : Prop
  | of : ∀ (sy : V) (la : Addr) (k : Nat) (rows : List Row), (xs = [sy, .ref la, .int k, .int 60]) → (H la = some (.list (rows.map Row.v))) → (AllocPre rows k) → (H 284 = some (.tab true)) → (∀ H' n hm, Le H.del H' → WF H' → H.del n = none → H' n = some (.list ((rows.map (zE3 hm)).map Row.v)) → AllocOk (ivals rows k) hm → Q (.ref n) H') → Sp303 xs H Q
noncomputable abbrev sp303 : List V → Wp V := Sp303
noncomputable def lb303_1 : Ls → Wp Fl := (zB3 (zG1 (zD2 zE1 (zB1 10) zD1 (zA4 (zD3 sp296 (zA4 (zB1 11) (zA4 (wOne (zB1 4) (zJ3 (Str.ofString "home"))) zB5))) zB5))) zB6)
noncomputable def lb303_2 : Ls → Wp Fl := (zB3 (zG7 (zF5 (zA4 (zC3 (zB1 9) (zA5 (V.int 0)) zD5) zB5)) 10) (zB3 (wFor (zC3 (zB1 9) (zA5 (V.int 1)) wFrom) (zG2 11) lb303_1) (zB3 (zG1 (zD2 zE1 (zB1 8) zD1 (zA4 (zD3 wTupOf (zA4 (zB1 10) zB5)) zB5))) zB6)))
noncomputable def lb303_3 : Ls → Wp Fl := (zB3 (zG1 (wMeth 278 (zB1 4) sp275 (zA4 (zB1 6) (zA4 (zD2 isDict (zB1 7) wGet (zA4 (wOne (zB1 6) (zJ3 (Str.ofString "number"))) (zA4 (zF5 zB5) zB5))) zB5)))) zB6)
noncomputable def lb303_4 : Ls → Wp Fl := (zB3 (zG3 (zB4 (zC3 (wOne (zB1 6) (zJ3 (Str.ofString "kind"))) (zA5 (V.str (Str.ofString "temp"))) wEq)) (zB3 (zG1 (zD2 zE1 (zB1 5) zD1 (zA4 (zB1 6) zB5))) zB6) (zB3 (zG1 (wMeth 278 (zB1 4) sp254 (zA4 (wOne (zB1 6) (zJ3 (Str.ofString "number"))) (zA4 (zB1 6) zB5)))) zB6)) zB6)
noncomputable def wb303 : Ls → Wp Fl := (zB3 (zG7 (wNew 278 sp247 zB5) 4) (zB3 (zG7 (zF5 zB5) 5) (zB3 (wFor (zD3 sp226 (zA4 (zB1 1) (zA4 (zB1 2) zB5))) (zG2 6) lb303_4) (zB3 (zG7 (zD3 sp233 (zA4 (zB1 1) zB5)) 7) (zB3 (wFor (zD3 sp289 (zA4 (zB1 5) zB5)) (zG2 6) lb303_3) (zB3 (zG7 (zF5 zB5) 8) (zB3 (wFor (zB1 1) (zG2 9) lb303_2) (zB3 (zG3 (wOrB (zB4 (zC3 (zB1 2) (zB1 3) (wInt fun i j => V.bool (decide (j < i))))) (wOrB (zB4 (zC3 (zD3 sp310 (zA4 (zB1 8) zB5)) (zB1 3) (wInt fun i j => V.bool (decide (j < i))))) (wTrue false))) (zB3 wOff zB6) zB6) (zB3 (wRet (zB1 8)) zB6)))))))))
theorem lb303_1_ap {l : Ls} {H : AH} {Q : Fl → AH → Prop} : lb303_1 l H Q = (zB3 (zG1 (zD2 zE1 (zB1 10) zD1 (zA4 (zD3 sp296 (zA4 (zB1 11) (zA4 (wOne (zB1 4) (zJ3 (Str.ofString "home"))) zB5))) zB5))) zB6) l H Q := rfl
theorem lb303_2_ap {l : Ls} {H : AH} {Q : Fl → AH → Prop} : lb303_2 l H Q = (zB3 (zG7 (zF5 (zA4 (zC3 (zB1 9) (zA5 (V.int 0)) zD5) zB5)) 10) (zB3 (wFor (zC3 (zB1 9) (zA5 (V.int 1)) wFrom) (zG2 11) lb303_1) (zB3 (zG1 (zD2 zE1 (zB1 8) zD1 (zA4 (zD3 wTupOf (zA4 (zB1 10) zB5)) zB5))) zB6))) l H Q := rfl
theorem lb303_3_ap {l : Ls} {H : AH} {Q : Fl → AH → Prop} : lb303_3 l H Q = (zB3 (zG1 (wMeth 278 (zB1 4) sp275 (zA4 (zB1 6) (zA4 (zD2 isDict (zB1 7) wGet (zA4 (wOne (zB1 6) (zJ3 (Str.ofString "number"))) (zA4 (zF5 zB5) zB5))) zB5)))) zB6) l H Q := rfl
theorem lb303_4_ap {l : Ls} {H : AH} {Q : Fl → AH → Prop} : lb303_4 l H Q = (zB3 (zG3 (zB4 (zC3 (wOne (zB1 6) (zJ3 (Str.ofString "kind"))) (zA5 (V.str (Str.ofString "temp"))) wEq)) (zB3 (zG1 (zD2 zE1 (zB1 5) zD1 (zA4 (zB1 6) zB5))) zB6) (zB3 (zG1 (wMeth 278 (zB1 4) sp254 (zA4 (wOne (zB1 6) (zJ3 (Str.ofString "number"))) (zA4 (zB1 6) zB5)))) zB6)) zB6) l H Q := rfl
theorem wb303_ap {l : Ls} {H : AH} {Q : Fl → AH → Prop} : wb303 l H Q = (zB3 (zG7 (wNew 278 sp247 zB5) 4) (zB3 (zG7 (zF5 zB5) 5) (zB3 (wFor (zD3 sp226 (zA4 (zB1 1) (zA4 (zB1 2) zB5))) (zG2 6) lb303_4) (zB3 (zG7 (zD3 sp233 (zA4 (zB1 1) zB5)) 7) (zB3 (wFor (zD3 sp289 (zA4 (zB1 5) zB5)) (zG2 6) lb303_3) (zB3 (zG7 (zF5 zB5) 8) (zB3 (wFor (zB1 1) (zG2 9) lb303_2) (zB3 (zG3 (wOrB (zB4 (zC3 (zB1 2) (zB1 3) (wInt fun i j => V.bool (decide (j < i))))) (wOrB (zB4 (zC3 (zD3 sp310 (zA4 (zB1 8) zB5)) (zB1 3) (wInt fun i j => V.bool (decide (j < i))))) (wTrue false))) (zB3 wOff zB6) zB6) (zB3 (wRet (zB1 8)) zB6))))))))) l H Q := rfl
structure AI (H0 H : AH) (a : Addr) (F : Addr → Prop) (O : Int → List Occ) (hm : IM) (N : Nat) : Prop where
  le : Le H0 H
  wf : WF H
  rf : RFile H a F O hm N
  fr : ∀ b, F b → H0 b = none
  live : ∀ b, F b → H b ≠ none
noncomputable def shr (F : Addr → Prop) (H : AH) : Addr → Prop := fun b => F b ∧ H b ≠ none
theorem MD.shr {H t F M N} (h : MD H t F M N) : MD H t (Mine.shr F H) M N := by
  refine zC5 fun _ hk => ?_
  obtain ⟨es, h0, h1, h2, h3, h4⟩ := h
  refine hk ?_
  exact ⟨es, h0, h1, h2, fun k v e => let ⟨la, a, b, c, d⟩ := h3 k v e; ⟨la, a, ⟨b, by rw [c]; simp⟩, c, d⟩, h4⟩
theorem RFile.shr {H a F O hm N} (wf : WF H) (R : RFile H a F O hm N) : RFile H a (Mine.shr F H) O hm N := by
  refine zC5 fun _ hk => ?_
  obtain ⟨d, t, h, T, R⟩ := R
  obtain ⟨o1, e1, _⟩ := R.md.dict
  obtain ⟨o2, e2, _⟩ := R.home.obj
  refine hk ?_
  exact ⟨d, t, h, T, R.at', R.ne, ⟨R.fa, by rw [R.at']; simp⟩, ⟨R.fd, by rw [wf _ _ _ _ R.at']; simp⟩, ⟨R.ft, by rw [e1]; simp⟩, ⟨R.fh, by rw [e2]; simp⟩, R.md.shr, R.home, R.occ⟩
section
variable {H0 H H' : AH} {a : Addr} {F F' : Addr → Prop} {O O' : Int → List Occ} {hm hm' : IM} {N N' : Nat}
theorem AI.evo (I : AI H0 H a F O hm N) (R : RFile H' a F' O' hm' N') (E : EvoF F F' H H') : AI H0 H' a (shr F' H') O' hm' N' :=
  ⟨EvoF.le I.le (fun b o e f => by rw [I.fr b f] at e; injection e) E, E.wf, R.shr E.wf, fun b f => (E.new b f.1).elim (I.fr b) I.le.none, fun b f => f.2⟩
theorem AI.ext (I : AI H0 H a F O hm N) (l : Le H H') (wf : WF H') : AI H0 H' a F O hm N := ⟨I.le.trans l, wf, I.rf.le l, I.fr, fun b f z => I.live b f (l.none z)⟩
theorem AI.put (I : AI H0 H a F O hm N) {b : Addr} {xs ys : List V} (h : H b = some (.list xs)) (nf : ¬ F b) (h0 : H0 b = none) : AI H0 (H.set b (.list ys)) a F O hm N :=
  ⟨I.le.set h0, I.wf.upd h, I.rf.keep (KI.put h (by intro _ _ _ q; injection q)) fun c o e f => by rw [AH.set_ne _ _ (fun z => nf (by rw [← z]; exact f))]; exact e, I.fr, fun c f => by rw [AH.set_ne _ _ (fun z => nf (by rw [← z]; exact f))]; exact I.live c f⟩
theorem AI.inst (I : AI H0 H a F O hm N) : ∃ d t h, H a = some (.inst 278 d (rfF (.ref t) (.ref h))) := by
  obtain ⟨d, t, h, T, R⟩ := I.rf
  exact ⟨d, t, h, R.at'⟩
end
theorem wAttr_kind {H : AH} {a d : Addr} {o : Occ} (h : H a = some (.inst 217 d o.fs)) {Q : V → AH → Prop} : zJ3 "kind" (.ref a) H Q = Q (.str o.kind) H := by
  exact at_ h occF_kind rfl
theorem wAttr_num {H : AH} {a d : Addr} {o : Occ} (h : H a = some (.inst 217 d o.fs)) {Q : V → AH → Prop} : zJ3 "number" (.ref a) H Q = Q (.int o.num) H := by
  exact at_ h occF_number rfl
theorem k_temp : PyData.strOk "temp" = true := by kernel_rfl
noncomputable def put1 (O : Int → List Occ) (os : List Occ) : Int → List Occ := fun r => O r ++ os.filter fun o => !zF1 o && decide (o.num = r)
noncomputable def l303 (x0 x1 x2 x3 : V) (a tl : Addr) (r : List (Option V)) : Ls := some x0 :: some x1 :: some x2 :: some x3 :: some (.ref a) :: some (.ref tl) :: r
theorem alloc1 {H0 : AH} {a L tl : Addr} {x0 x1 x2 x3 : V} {hm : IM} {vs0 : List V} {x7 x8 x9 x10 x11 : Option V} (src : Src) (hs : src = .list L vs0) (ne : tl ≠ L) (ht0 : H0 tl = none) (K : Fl → AH → Prop) :
    ∀ (vs : List V) (os : List Occ) (H : AH) (F : Addr → Prop) (O : Int → List Occ) (N : Nat) (tv : List V) (ot : List Occ) (x6 : Option V), Occs H vs os → AI H0 H a F O hm N → H L = some (.list vs0) → ¬ F L → H tl = some (.list tv) → ¬ F tl → Occs H tv ot → tv.length ≤ N →
    N + vs.length ≤ 20000 → (∀ o ∈ os, PyData.strOk o.kind = true) →
    (∀ H' F' tv' x6', AI H0 H' a F' (put1 O os) hm (N + vs.length) → KI H H' → H' L = some (.list vs0) → H' tl = some (.list tv') → ¬ F' tl → Occs H' tv' (ot ++ temps os) → tv'.length ≤ N + vs.length → K (.next (l303 x0 x1 x2 x3 a tl [x6', x7, x8, x9, x10, x11])) H') →
    wLoop src (zG2 6) lb303_4 vs (l303 x0 x1 x2 x3 a tl [x6, x7, x8, x9, x10, x11]) H K
  | _, _, H, F, O, N, tv, ot, x6, .nil, I, hL, nL, ht, nt, oc, hl, hN, hk, k => by
    refine k H F tv x6 ?_ (KI.refl H) hL ht nt (by simpa [temps] using oc) hl
    have : put1 O [] = O := by funext r; simp [put1]
    rw [this]; exact I
  | v :: vs, o :: os, H, F, O, N, tv, ot, x6, .cons hv hvs, I, hL, nL, ht, nt, oc, hl, hN, hk, k => by
    have ih := alloc1 (H0 := H0) (a := a) (tl := tl) (x0 := x0) (x1 := x1) (x2 := x2) (x3 := x3) (hm := hm) (x7 := x7) (x8 := x8) (x9 := x9) (x10 := x10) (x11 := x11) src hs ne ht0 K vs os
    obtain ⟨d, t, h, ha⟩ := I.inst
    have hv' := hv
    obtain ⟨b, db, rfl, hb⟩ := hv
    have hok := hk o (.head _)
    simp only [List.length_cons] at hN
    rw [lp_cons]
    unfold l303
    by_cases e : o.kind = "temp"
    · have et : zF1 o = true := by simp [zF1, e]
      simp! only [↓lb303_4_ap, ↓wAttr_kind hb, ↓qs_t hok k_temp e, ↓ok_list ht, ↓zH3 ht (show tv.length ≤ 1000000 by lia)]
      have I' := I.put (ys := tv ++ [.ref b]) ht nt ht0
      have ki : KI H (H.set tl (.list (tv ++ [.ref b]))) := KI.put ht (by intro _ _ _ q; cases q)
      have hL' : (H.set tl (.list (tv ++ [.ref b]))) L = some (.list vs0) := by rw [AH.set_ne _ _ ne.symm]; exact hL
      refine ⟨by subst hs; exact hL', ?_⟩
      refine ih _ F O (N + 1) (tv ++ [.ref b]) (ot ++ [o]) _ (hvs.keep ki) ⟨I'.le, I'.wf, ?_, I'.fr, I'.live⟩ hL' nL (AH.set_self ..) nt ((oc.keep ki).append (.cons (hv'.keep ki) .nil)) (by simp; lia) (by lia) (fun x hx => hk x (.tail _ hx)) fun H' F' tv' x6' J1 J0 J2 J3 J4 J5 J6 => ?_
      · obtain ⟨d, t, h, T, R⟩ := I'.rf
        exact ⟨d, t, h, T, R.at', R.ne, R.fa, R.fd, R.ft, R.fh, R.md.mono (Nat.le_succ N), R.home.mono1, R.occ⟩
      · refine k H' F' tv' x6' ?_ (ki.trans J0) J2 J3 J4 ?_ (by simp at J6 ⊢; lia)
        · have : put1 O (o :: os) = put1 O os := by funext r; simp [put1, et]
          rw [this, show N + (V.ref b :: vs).length = N + 1 + vs.length by simp; lia]; exact J1
        · have : temps (o :: os) = o :: temps os := by simp [temps, et]
          rw [this]; simpa using J5
    · have et : zF1 o = false := by simp [zF1, e]
      simp! only [↓lb303_4_ap, ↓wAttr_kind hb, ↓qs_f hok k_temp e, ↓wAttr_num hb, ↓m1_ ha]
      refine ⟨a, F, O, hm, N, o.num, _, o, rfl, I.rf, by lia, hv', fun H1 F1 R1 E1 K1 => ?_⟩
      have I1 := I.evo R1 E1
      obtain ⟨hL1, nL1⟩ := E1.stay hL nL
      obtain ⟨ht1, nt1⟩ := E1.stay ht nt
      refine ⟨by subst hs; exact hL1, ?_⟩
      refine ih H1 (shr F1 H1) _ (N + 1) tv ot _ (hvs.keep K1) I1 hL1 (fun f => nL1 f.1) ht1 (fun f => nt1 f.1) (oc.keep K1) (by lia) (by lia) (fun x hx => hk x (.tail _ hx)) fun H' F' tv' x6' J1 J0 J2 J3 J4 J5 J6 => ?_
      refine k H' F' tv' x6' ?_ (K1.trans J0) J2 J3 J4 ?_ (by simp at J6 ⊢; lia)
      · have : put1 O (o :: os) = put1 (updM O o.num (O o.num ++ [o])) os := by
          funext r
          simp only [put1, updM, List.filter_cons, et, Bool.not_false, Bool.true_and]
          by_cases z : r = o.num
          · subst z; simp
          · have : ¬ o.num = r := fun y => z y.symm
            simp [z, this]
        rw [this, show N + (V.ref b :: vs).length = N + 1 + vs.length by simp; lia]; exact J1
      · have : temps (o :: os) = temps os := by simp [temps, et]
        rw [this]; exact J5
end
section
theorem freeL_all {ps : List Occ} {o : Occ} (h : freeL ps o = true) : ∀ x ∈ ps, o.over x = false := by
  intro x hx
  rw [freeL, Bool.not_eq_true', List.any_eq_false] at h
  exact Bool.eq_false_iff.mpr (h x hx)
theorem MD.ne_none {H t F M N} (h : MD H t F M N) : H t ≠ none := by obtain ⟨o, e, _⟩ := h.dict; rw [e]; simp
set_option tactic.hygienic true in
theorem alloc2 {H0 : AH} {a tl L t : Addr} {x0 x1 x2 x3 : V} {vs0 : List V} {Fw : Addr → Prop} {M : Int → List V} {Nw : Nat} {x8 x9 x10 x11 : Option V} (hM : ∀ k, ∃ ops : List Op, M k = ops.map Op.v ∧ ∀ o ∈ ops, (∃ n, o = .t n) ∨ o.num ≤ 6)
    (src : Src) (hs : src = .list L vs0) (K : Fl → AH → Prop) :
    ∀ (vs : List V) (os : List Occ) (H : AH) (F : Addr → Prop) (O : Int → List Occ) (hm : IM) (N : Nat) (done : List Occ) (x6 : Option V), Occs H vs os → AI H0 H a F O hm N → H L = some (.list vs0) → ¬ F L → MD H t Fw M Nw → ¬ F t → (∀ b, Fw b → ¬ F b ∧ H b ≠ none) →
    N + 2 * vs.length ≤ 20000 → (∀ o ∈ os, zF1 o = true) → ((done ++ os).map Occ.num).Nodup → (∀ r : Int, 6 + (done.length : Int) < r → O r = []) → (∀ n r, hm n = some r → r ≤ 6 + (done.length : Int)) →
    (∀ o ∈ done, ∃ r, hm o.num = some r ∧ o ∈ O r) → (∀ r, (O r).Pairwise RegR) →
    (∀ H' F' O' hm' x6', AI H0 H' a F' O' hm' (N + 2 * vs.length) → (∀ r x, x ∈ O r → x ∈ O' r) → (∀ n r, hm' n = some r → r ≤ 6 + ((done ++ os).length : Int)) → (∀ o ∈ done ++ os, ∃ r, hm' o.num = some r ∧ o ∈ O' r) → (∀ r, (O' r).Pairwise RegR) →
      K (.next (l303 x0 x1 x2 x3 a tl [x6', some (.ref t), x8, x9, x10, x11])) H') →
    wLoop src (zG2 6) lb303_3 vs (l303 x0 x1 x2 x3 a tl [x6, some (.ref t), x8, x9, x10, x11]) H K
  | _, _, H, F, O, hm, N, done, x6, .nil, I, hL, nL, hW, nt, hFw, hN, hT, hnd, hb1, hb2, hd, hp, k => by
    exact k H F O hm x6 I (fun _ _ h => h) (by simpa using hb2) (by simpa using hd) hp
  | v :: vs, o :: os, H, F, O, hm, N, done, x6, .cons hv hvs, I, hL, nL, hW, nt, hFw, hN, hT, hnd, hb1, hb2, hd, hp, k => by
    have ih := alloc2 (H0 := H0) (a := a) (tl := tl) (t := t) (x0 := x0) (x1 := x1) (x2 := x2) (x3 := x3) (Fw := Fw) (Nw := Nw) (x8 := x8) (x9 := x9) (x10 := x10) (x11 := x11) hM src hs K vs os
    obtain ⟨d, t', h', ha⟩ := I.inst
    have hv' := hv
    obtain ⟨b, db, rfl, hb⟩ := hv
    simp only [List.length_cons] at hN
    rw [lp_cons]
    unfold l303
    simp! only [↓lb303_3_ap, ↓wAttr_num hb, ↓m1_ ha]
    refine ⟨hW.ok, by lia, fun n hn => hW.get hn fun lo hlo hlen => ?_⟩
    have l1 : Le H (H.set n (.list [])) := (Le.refl H).set hn
    have I1 := I.ext l1 (I.wf.new hn)
    obtain ⟨ops, e1, e2⟩ := hM o.num
    rw [e1] at hlo
    have hB : (0 : Int) ≤ 6 + (done.length : Int) := by lia
    refine ⟨a, F, O, hm, N, 6 + (done.length : Int), .ref b, o, lo, ops, rfl, I1.rf, by lia, hv'.keep (KI.le l1), hlo, fun p hp => (e2 p hp).imp id fun h => by lia, hb2, hB, hb1, fun r H' F' hr hf R' E KI' => ?_⟩
    have I2 := I1.evo R' E
    obtain ⟨hL2, nL2⟩ := E.stay (l1 _ _ hL) nL
    have W1 : MD (H.set n (.list [])) t Fw M Nw := hW.keep (fun o e => l1 _ _ e) fun b o e _ => l1 _ _ e
    have W2 : MD H' t Fw M Nw := W1.keep (fun o e => E.keep _ _ e nt) fun b o e f => E.keep _ _ e (hFw b f).1
    obtain ⟨ot, hot, _⟩ := W1.dict
    obtain ⟨_, nt2⟩ := E.stay hot nt
    refine ⟨by subst hs; exact hL2, ?_⟩
    refine ih H' (shr F' H') _ _ (N + 2) (done ++ [o]) _ (hvs.keep ((KI.le l1).trans KI')) I2 hL2 (fun f => nL2 f.1) W2 (fun f => nt2 f.1) (fun b f => ?_) (by lia) (fun x hx => hT x (.tail _ hx)) (by simpa using hnd) (fun z hz => ?_) (fun m z hz => ?_) (fun x hx => ?_) (fun z => ?_) fun H'' F'' O'' hm'' x6' J1 J2 J3 J4 J5 => ?_
    · obtain ⟨f1, f2⟩ := hFw b f
      obtain ⟨ob, eb⟩ : ∃ ob, H b = some ob := by
        cases q : H b with
        | none => exact absurd q f2
        | some ob => exact ⟨ob, rfl⟩
      obtain ⟨g1, g2⟩ := E.stay (l1 _ _ eb) f1
      exact ⟨fun f => g2 f.1, by rw [g1]; simp⟩
    · simp only [List.length_append, List.length_singleton, Int.natCast_add] at hz
      unfold updM
      rw [if_neg (by lia)]
      exact hb1 z (by lia)
    · simp only [List.length_append, List.length_singleton, Int.natCast_add]
      unfold upd at hz
      split at hz
      · cases hz; lia
      · have := hb2 m z hz; lia
    · rcases List.mem_append.mp hx with hx | hx
      · obtain ⟨rx, a1, a2⟩ := hd x hx
        refine ⟨rx, ?_, ?_⟩
        · unfold upd
          rw [if_neg]
          · exact a1
          · intro z
            rw [List.map_append, List.nodup_append] at hnd
            exact hnd.2.2 _ (List.mem_map.mpr ⟨x, hx, rfl⟩) _ (List.mem_map.mpr ⟨o, .head _, rfl⟩) z
        · unfold updM
          split
          · rename_i z; rw [← z]; exact List.mem_append_left _ a2
          · exact a2
      · rw [List.mem_singleton.mp hx]
        exact ⟨r, by unfold upd; rw [if_pos rfl], by unfold updM; rw [if_pos rfl]; simp⟩
    · unfold updM
      split
      · rw [List.pairwise_append]
        refine ⟨hp r, List.pairwise_singleton _ _, fun x hx y hy => ?_⟩
        rw [List.mem_singleton.mp hy]
        exact ⟨fun _ => hT o (.head _), fun _ => freeL_all hf x hx⟩
      · exact hp z
    · refine k H'' F'' O'' hm'' x6' ?_ (fun z x hx => J2 z x ?_) (by simpa using J3) (by simpa using J4) J5
      · rw [show N + 2 * (V.ref b :: vs).length = N + 2 + 2 * vs.length by simp; lia]; exact J1
      · unfold updM
        split
        · rename_i z'; rw [← z']; exact List.mem_append_left _ hx
        · exact hx
theorem alloc3 {H0 : AH} {a tl rl pl : Addr} {x0 x1 x2 x3 : V} {F : Addr → Prop} {O : Int → List Occ} {hm : IM} {N : Nat} {x6 x7 : Option V} {r : Row} (np : ¬ F pl) (h0 : H0 pl = none) (K : Fl → AH → Prop) (src : Src) (hs : ∃ xs, src = .tup xs) :
    ∀ (ps : List Pt) (H : AH) (ys : List V) (x11 : Option V), AI H0 H a F O hm N → H pl = some (.list ys) → ys.length + ps.length ≤ 100 → (∀ n, Pt.op (.t n) ∈ ps → ∃ z, hm n = some z) →
    (∀ H' x11', AI H0 H' a F O hm N → (∀ b, b ≠ pl → H' b = H b) → H' pl = some (.list (ys ++ ps.map fun p => (realPt hm p).v)) → K (.next (l303 x0 x1 x2 x3 a tl [x6, x7, some (.ref rl), some r.v, some (.ref pl), x11'])) H') →
    wLoop src (zG2 11) lb303_1 (ps.map Pt.v) (l303 x0 x1 x2 x3 a tl [x6, x7, some (.ref rl), some r.v, some (.ref pl), x11]) H K := by
  intro zz
  induction zz with
  | nil =>
    intro H ys x11 I hp hl hh k
    exact k H x11 I (fun _ _ => rfl) (by simpa using hp)
  | cons p ps ih =>
    intro H ys x11 I hp hl hh k
    have ih := ih
    obtain ⟨d, t, h, T, R⟩ := I.rf
    simp only [List.length_cons] at hl
    rw [List.map_cons, lp_cons]
    unfold l303
    simp! only [↓lb303_1_ap, ↓ok_list hp, ↓m1_ R.at', ↓at_ R.at' rfF_h rfl]
    refine ⟨p, h, hm, N, rfl, R.home, fun n e => hh n (by rw [e]; exact .head _), ?_⟩
    show zD1 [.ref pl, (realPt hm p).v] H _
    rw [zH3 hp (by lia)]
    have I' := I.put (ys := ys ++ [(realPt hm p).v]) hp np h0
    refine ⟨by obtain ⟨xs, rfl⟩ := hs; trivial, ?_⟩
    refine ih _ _ _ I' (AH.set_self ..) (by simp; lia) (fun n e => hh n (.tail _ e)) fun H' x11' J1 J2 J3 => ?_
    refine k H' x11' J1 (fun b nb => ?_) (by simpa using J3)
    rw [J2 b nb, AH.set_ne _ _ nb]
theorem alloc4 {H0 : AH} {a tl rl la : Addr} {x0 x2 x3 : V} {F : Addr → Prop} {O : Int → List Occ} {hm : IM} {N : Nat} {x6 x7 : Option V} {rows : List Row} (hla : H0 la = some (.list (rows.map Row.v))) (few : ∀ r ∈ rows, r.ps.length ≤ 10) (hl : rows.length ≤ 1000)
    (hh : ∀ r ∈ rows, ∀ n, Pt.op (.t n) ∈ r.ps → ∃ z, hm n = some z) (nr : ¬ F rl) (h0 : H0 rl = none) (K : Fl → AH → Prop) (src : Src) (hs : src = .list la (rows.map Row.v)) :
    ∀ (rs : List Row) (H : AH) (done : List Row) (x9 x10 x11 : Option V), (∀ r ∈ rs, r ∈ rows) → AI H0 H a F O hm N → H rl = some (.list (done.map Row.v)) → done.length + rs.length ≤ 1000 →
    (∀ H' x9' x10' x11', AI H0 H' a F O hm N → H' rl = some (.list ((done ++ rs.map (zE3 hm)).map Row.v)) → K (.next (l303 x0 (.ref la) x2 x3 a tl [x6, x7, some (.ref rl), x9', x10', x11'])) H') →
    wLoop src (zG2 9) lb303_2 (rs.map Row.v) (l303 x0 (.ref la) x2 x3 a tl [x6, x7, some (.ref rl), x9, x10, x11]) H K := by
  intro zz
  induction zz with
  | nil =>
    intro H done x9 x10 x11 sub I hr hN k
    exact k H _ _ _ I (by simpa using hr)
  | cons r rs ih =>
    intro H done x9 x10 x11 sub I hr hN k
    have ih := ih
    simp only [List.length_cons] at hN
    rw [List.map_cons, lp_cons]
    have hf := few r (sub r (.head _))
    have from1 : ∀ {H : AH} {Q : V → AH → Prop}, wFrom r.v (.int 1) H Q = Q (.tup (r.ps.map Pt.v)) H := fun {H Q} => by
      unfold Row.v wFrom
      refine propext ⟨fun x => x.2, fun x => ⟨?_, x⟩⟩
      simp; lia
    unfold l303
    simp! only [↓lb303_2_ap, ↓wSub_row0, ↓from1, ↓wFor]
    refine ⟨by lia, fun pl hpl => ?_⟩
    have l1 : Le H (H.set pl (.list [.str r.nm])) := (Le.refl H).set hpl
    have I1 := I.ext l1 (I.wf.new hpl)
    have np : ¬ F pl := fun f => I.live pl f hpl
    have rp : rl ≠ pl := AH.ne_of hr hpl
    refine ⟨.tup (r.ps.map Pt.v), .tup, trivial, ?_⟩
    refine alloc3 (rl := rl) (r := r) np (I.le.none hpl) _ (.tup (r.ps.map Pt.v)) ⟨_, rfl⟩ r.ps _ [.str r.nm] _ I1 (AH.set_self ..) (by simp; lia) (hh r (sub r (.head _))) fun H' x11' I2 oth hp2 => ?_
    have hr2 : H' rl = some (.list (done.map Row.v)) := by rw [oth rl rp, AH.set_ne _ _ rp]; exact hr
    have e : (zE3 hm r).v = .tup (V.str r.nm :: r.ps.map fun p => (realPt hm p).v) := by
      simp [zE3, Row.v, List.map_map, Function.comp_def]
    unfold l303
    simp! only [↓ok_list hr2, ↓tupOf_l hp2]
    refine ⟨by simp; lia, ?_⟩
    rw [← e, zH3 hr2 (by simp; lia)]
    have I3 := I2.put (ys := done.map Row.v ++ [(zE3 hm r).v]) hr2 nr h0
    refine ⟨by subst hs; exact I3.le _ _ hla, ?_⟩
    have := ih _ (done ++ [zE3 hm r]) (some r.v) (some (.ref pl)) x11' (fun x hx => sub x (.tail _ hx)) I3 (by rw [AH.set_self]; simp) (by simp; lia) fun H'' y9 y10 y11 J1 J2 => k H'' y9 y10 y11 J1 (by simpa using J2)
    exact this
theorem Occs.length {H : AH} : ∀ {vs os}, Occs H vs os → vs.length = os.length := by
  intro _ _ zz
  induction zz with
  | nil => rfl
  | cons _ _ ih => simp [ih]
theorem Occs.perm {H : AH} {vs us : List V} (p : us.Perm vs) : ∀ {os : List Occ}, Occs H vs os → ∃ ps, Occs H us ps ∧ ps.Perm os := by
  induction p with
  | nil => intro os h; exact ⟨os, h, .refl _⟩
  | cons x p ih =>
    intro os h
    cases h with
    | cons a b =>
      obtain ⟨ps, h1, h2⟩ := ih b
      exact ⟨_ :: ps, .cons a h1, h2.cons _⟩
  | swap x y l =>
    intro os h
    cases h with
    | cons a b =>
      cases b with
      | cons a' b' => exact ⟨_, .cons a' (.cons a b'), .swap _ _ _⟩
  | trans p q ih1 ih2 =>
    intro os h
    refine zC5 fun _ hk => ?_
    obtain ⟨ps, h1, h2⟩ := ih2 h
    obtain ⟨qs, h3, h4⟩ := ih1 h1
    refine hk ?_
    exact ⟨qs, h3, h4.trans h2⟩
theorem rspec_real (hm : IM) (r : Row) (ok : r.ok) : roles (zE3 hm r) = (roles r).map fun p => (p.1, zH5 hm p.2) := by
  unfold roles
  simp only [List.map_map]
  refine List.map_congr_left fun p hp => ?_
  obtain ⟨o, e⟩ := ok.ops p hp
  simp only [Function.comp, zE3, opAt, List.getElem?_map, e, Option.map_some, realPt]
theorem Row.ok.real {r : Row} (ok : r.ok) (hm : IM) : (zE3 hm r).ok where
  nm := ok.nm
  ops := fun p hp => by
    obtain ⟨o, e⟩ := ok.ops p hp
    exact ⟨zH5 hm o, by simp [zE3, e, realPt]⟩
  few := by simpa [zE3] using ok.few
section
variable {c : Cx} (Fn : Fns c.K)
include Fn
theorem rf303 (h289 : RF c 5 289 sp289) : RF c 6 303 sp303 := by
  have h247 : RF c 4 247 sp247 := (rf247 Fn).mono (by lia)
  have h226 : RF c 5 226 sp226 := (rf226 Fn).mono (by lia)
  have h254 : RF c 5 254 sp254 := (rf254 Fn).mono (by lia)
  have h233 : RF c 5 233 sp233 := (rf233 Fn).mono (by lia)
  have h275 : RF c 5 275 sp275 := (rf275 Fn).mono (by lia)
  have h296 : RF c 5 296 sp296 := (rf296 Fn).mono (by lia)
  have h310 : RF c 5 310 sp310 := (rf310 Fn).mono (by lia)
  have hnd : ((["symbols", "instrs", "arity", "limit"] : List Str) ++ (["file", "temporaries", "taken", "wanted", "real", "instruction", "parts", "operand"] : List Str)).Nodup := by decide
  refine rf_of (ps := (["symbols", "instrs", "arity", "limit"] : List Str)) (rest := (["file", "temporaries", "taken", "wanted", "real", "instruction", "parts", "operand"] : List Str)) Fn.f303 (zA1 (zD6 4 (re_new (C := 278) (f := 247) h247 zA7)) (zA1 (zD6 5 (zE2 zA7)) (zA1 (rs_for (zE6 (f := 226) h226 (zA2 (zA3 1) (zA2 (zA3 2) zA7))) (tg_name 6) (zA1 (zE5 (zC4 (zF3 (zA3 6) zF2) zC6 zE4) (zA1 (zG6 (zD7 (zA3 5) zF7 (zA2 (zA3 6) zA7) (gm_list F.slot_list_append) _)) zA6) (zA1 (zG6 (zJ1 (f := 254) 278 (zA3 4) h254 (zA2 (zF3 (zA3 6) zF2) (zA2 (zA3 6) zA7)) _)) zA6)) zA6)) (zA1 (zD6 7 (zE6 (f := 233) h233 (zA2 (zA3 1) zA7))) (zA1 (rs_for (zE6 (f := 289) h289 (zA2 (zA3 5) zA7)) (tg_name 6) (zA1 (zG6 (zJ1 (f := 275) 278 (zA3 4) h275 (zA2 (zA3 6) (zA2 (zD7 (zA3 7) rb_get (zA2 (zF3 (zA3 6) zF2) (zA2 (zE2 zA7) zA7)) (gm_dict F.slot_dict_get) _) zA7)) _)) zA6)) (zA1 (zD6 8 (zE2 zA7)) (zA1 (rs_for (zA3 1) (tg_name 9) (zA1 (zD6 10 (zE2 (zA2 (zC2 (zA3 9) zB2 zC1) zA7))) (zA1 (rs_for (re_from (zA3 9) zB2) (tg_name 11) (zA1 (zG6 (zD7 (zA3 10) zF7 (zA2 (zE6 (f := 296) h296 (zA2 (zA3 11) (zA2 (zF3 (zA3 4) zF2) zA7))) zA7) (gm_list F.slot_list_append) _)) zA6)) (zA1 (zG6 (zD7 (zA3 8) zF7 (zA2 (zH2 _ rb_tuple (zA2 (zA3 10) zA7)) zA7) (gm_list F.slot_list_append) _)) zA6)))) (zA1 (zE5 (zH4 (zH7 (zC4 (zA3 2) (zA3 3) rv_gt) (zH7 (zC4 (zE6 (f := 310) h310 (zA2 (zA3 8) zA7)) (zA3 3) rv_gt) rts_nilO))) (zA1 rs_off zA6) zA6) (zA1 (zD4 (zA3 8)) zA6))))))))) ?_ (fun pm cd => len4 (fun _ _ _ _ => by rfl))
  rintro xs H Q wf ⟨sy, la, k, rows, rfl, h0, pre, htab, q⟩
  refine ⟨rfl, ?_⟩
  show wBody wb303 _ H _
  simp! only [↓wb303_ap, ↓wNew]
  intro a d ne ha hd
  have le1 : Le H ((H.set d (.own a)).set a (.inst 278 d [])) := new_keep hd ha
  have wf1 := wf_inst wf (C := 278) (fs := []) hd ha ne
  refine ⟨a, d, rfl, AH.set_self .., by rw [AH.set_ne _ _ ne.symm, AH.set_self], fun H1 F1 R1 E1 => ⟨rfl, ?_⟩⟩
  have leH1 : Le H H1 := fun b o e => E1.keep b o (le1 b o e) fun z => z.elim (fun z => by rw [z, ha] at e; cases e) (fun z => by rw [z, hd] at e; cases e)
  have I1 : AI H H1 a (shr F1 H1) (fun _ => []) (fun _ => none) 0 := ⟨leH1, E1.wf, R1.shr E1.wf, fun b f => by
    rcases E1.new b f.1 with z | z
    · rcases z with z | z
      · rw [z]; exact ha
      · rw [z]; exact hd
    · exact le1.none z, fun b f => f.2⟩
  simp! only []
  refine ⟨by lia, fun tl htl => ?_⟩
  have I2 := I1.ext ((Le.refl H1).set (o := .list []) htl) (I1.wf.new htl)
  have ntl : ¬ shr F1 H1 tl := fun f => I1.live tl f htl
  have tl0 : H tl = none := I1.le.none htl
  simp! only [↓wFor]
  refine ⟨la, k, rows, rfl, I2.le _ _ h0, pre.ok, pre.len, by have := pre.k6; lia, pre.reads, fun H3 L vs le3 wf3 fL hL oc => ?_⟩
  have I3 := I2.ext le3 wf3
  have nL : ¬ shr F1 H1 L := fun f => I2.live L f fL
  have htl3 := le3 _ _ (AH.set_self H1 tl (.list []))
  have tlL : tl ≠ L := AH.ne_of (AH.set_self H1 tl (.list [])) fL
  refine ⟨.list L vs, .list (hL), trivial, ?_⟩
  have vlen := oc.length
  have olen := pre.olen
  refine alloc1 (x0 := sy) (x1 := .ref la) (x2 := .int k) (x3 := .int 60) (.list L vs) rfl tlL tl0 _ vs (ivals rows k) H3 _ _ 0 [] [] none oc I3 hL nL htl3 ntl .nil (by simp) (by lia) pre.kinds fun H4 F4 tv x6' I4 K4 hL4 htl4 ntl4 oc4 hl4 => ?_
  unfold l303
  simp! only []
  refine ⟨la, rows, fun o => (∃ n, o = .t n) ∨ o.num ≤ 6, rfl, I4.le _ _ h0, pre.ok, pre.len, pre.small, fun t H5 Fw M W => ?_⟩
  have I5 := I4.ext W.le W.wf
  simp! only [↓wFor]
  have htl5 := W.le _ _ htl4
  have oc5 := oc4.keep (KI.le W.le)
  simp only [List.nil_append] at oc5
  refine ⟨tl, tv, temps (ivals rows k), rfl, htl5, by rw [oc5.length]; exact pre.tone, by rw [oc5.length]; have := pre.tfew; lia, oc5, I5.le _ _ htab, fun L2 vs2 fL2' pm => ?_⟩
  have tab5 := I5.le _ _ htab
  have wfT : WF (H5.set 284 (.tab false)) := I5.wf.upd tab5
  have L2n : L2 ≠ 284 := (AH.ne_of tab5 fL2').symm
  have fL2 : (H5.set 284 (.tab false)) L2 = none := by rw [AH.set_ne _ _ L2n]; exact fL2'
  have n284 : ∀ b, F4 b → b ≠ 284 := fun b f z => by have := I5.fr b f; rw [z, htab] at this; cases this
  have kiT : KI H5 (H5.set 284 (.tab false)) := KI.put tab5 (by intro _ _ _ q; cases q)
  have IT := (show AI H.del (H5.set 284 (.tab false)) a F4 _ _ _ from ⟨fun b o e => by
      by_cases nb : b = 284
      · rw [nb, AH.del_tab] at e; rw [nb, AH.set_self]; exact e
      · rw [AH.del_ne _ nb] at e; rw [AH.set_ne _ _ nb]; exact I5.le _ _ e, wfT, I5.rf.keep kiT fun b o e f => by rw [AH.set_ne _ _ (n284 b f)]; exact e, fun b f => H.del_none htab (I5.fr b f), fun b f => by rw [AH.set_ne _ _ (n284 b f)]; exact I5.live b f⟩)
  have h0' : H.del la = some (.list (rows.map Row.v)) := AH.del_some h0 (by intro _ q; cases q) htab
  have l6 : Le (H5.set 284 (.tab false)) ((H5.set 284 (.tab false)).set L2 (.list vs2)) := (Le.refl _).set fL2
  have I6 := IT.ext l6 (IT.wf.new fL2)
  obtain ⟨os2, oc2, pm2⟩ := (oc5.keep (kiT.trans (KI.le l6))).perm pm
  refine ⟨.list L2 vs2, .list (AH.set_self ..), trivial, ?_⟩
  have notab : ∀ b o, H5 b = some o → (∀ x, o ≠ .tab x) → ((H5.set 284 (.tab false)).set L2 (.list vs2)) b = some o := fun b o e ne => by
    refine l6 _ _ ?_
    rw [AH.set_ne]
    · exact e
    · intro z; rw [z, tab5] at e; exact ne true (Option.some.inj e).symm
  have W6 : MD ((H5.set 284 (.tab false)).set L2 (.list vs2)) t (shr Fw H5) M (2 * rows.length) := by
    obtain ⟨es, m0, m1, m2, m3, m4⟩ := W.md.shr
    refine ⟨es, m0, ?_, m2, fun k v e => let ⟨la, a1, b1, c1, d1⟩ := m3 k v e; ⟨la, a1, b1, notab _ _ c1 (by intro _ q; cases q), d1⟩, m4⟩
    rcases m1 with ⟨ep, m1⟩ | ⟨m5, ep, m1⟩
    · exact .inl ⟨ep, notab _ _ m1 (by intro _ q; cases q)⟩
    · exact .inr ⟨m5, ep, notab _ _ m1 (by intro _ q; cases q)⟩
  have l2 : vs2.length ≤ 50 := by rw [oc2.length, pm2.length_eq]; exact pre.tfew
  refine alloc2 (a := a) (tl := tl) (t := t) (x0 := sy) (x1 := .ref la) (x2 := .int k) (x3 := .int 60) (Fw := shr Fw H5) (M := M) (Nw := 2 * rows.length) W.ops (.list L2 vs2) rfl _ vs2 os2 _ F4 _ _ (0 + vs.length) [] x6' oc2 I6 (AH.set_self ..) (fun f => I5.live L2 f fL2') W6 (fun f => ?_) (fun b f => ⟨fun f' => ?_, ?_⟩) (by lia) (fun o ho => ?_) ?_ (fun r hr => ?_) (fun n r e => by cases e) (fun o ho => by cases ho) (fun r => ?_) fun H7 F7 O7 hm x6'' I7 mono hb hd7 hp7 => ?_
  · exact I4.live t f W.ht
  · exact I4.live b f' (W.hF b f.1)
  · intro z
    obtain ⟨f1, f2⟩ := f
    cases q' : H5 b with
    | none => exact f2 q'
    | some ob =>
      have : (H5.set 284 (.tab false)) b ≠ none := by
        by_cases zz : b = 284
        · rw [zz, AH.set_self]; simp
        · rw [AH.set_ne _ _ zz, q']; simp
      exact this (l6.none z)
  · exact (List.mem_filter.mp (pm2.mem_iff.mp ho)).2
  · simp only [List.nil_append]
    exact (pm2.map Occ.num).nodup_iff.mpr pre.nd
  · simp only [put1, List.nil_append, List.filter_eq_nil_iff]
    intro o ho hh
    simp only [Bool.and_eq_true, Bool.not_eq_true', decide_eq_true_eq] at hh
    have := pre.nums o ho hh.1
    simp at hr; lia
  · simp only [put1, List.nil_append]
    refine List.Pairwise.imp_of_mem (R := fun _ _ => True) (fun {x y} hx hy _ => ?_) (List.pairwise_of_forall fun _ _ => trivial)
    simp only [List.mem_filter, Bool.and_eq_true, Bool.not_eq_true', decide_eq_true_eq] at hx hy
    exact ⟨fun z => by rw [hx.2.1] at z; (cases z), fun z => by rw [hy.2.1] at z; (cases z)⟩
  · simp! only []
    refine ⟨by lia, fun rl hrl => ?_⟩
    have I8 := I7.ext ((Le.refl H7).set (o := .list []) hrl) (I7.wf.new hrl)
    refine ⟨.list la (rows.map Row.v), .list (I8.le _ _ h0'), trivial, ?_⟩
    have hh : ∀ r ∈ rows, ∀ n, Pt.op (.t n) ∈ r.ps → ∃ z, hm n = some z := fun r hr n hn => by
      obtain ⟨o, ho, e⟩ := pre.has r hr n hn
      obtain ⟨z, hz, _⟩ := hd7 o (by simpa using pm2.mem_iff.mpr ho)
      exact ⟨z, by rw [← e]; exact hz⟩
    refine alloc4 (x0 := sy) (x2 := .int k) (x3 := .int 60) (rl := rl) (hm := hm) h0' pre.few pre.len hh (fun f => I7.live rl f hrl) (I7.le.none hrl) _ (.list la (rows.map Row.v)) rfl rows _ [] none none none (fun _ h => h) I8 (by rw [AH.set_self]; rfl) (by simpa using pre.len) fun H9 y9 y10 y11 I9 hr9 => ?_
    unfold l303
    simp only [List.nil_append] at hr9
    have k60 : ¬ (60 : Int) < (k : Int) := by have := pre.k6; lia
    simp! only [↓gt_f k60]
    refine ⟨rl, rows.map (zE3 hm), 60, rfl, hr9, fun r hr => ?_, fun r hr p hp n e => ?_, by lia, fun m hm60 => ?_⟩
    · obtain ⟨r0, h1, rfl⟩ := List.mem_map.mp hr
      exact (pre.ok r0 h1).real hm
    · obtain ⟨r0, h1, rfl⟩ := List.mem_map.mp hr
      rw [rspec_real hm r0 (pre.ok r0 h1)] at hp
      obtain ⟨p0, h2, rfl⟩ := List.mem_map.mp hp
      have hs := pre.small r0 h1 p0 h2
      have l50 := pm2.length_eq
      have t50 := pre.tfew
      cases ho : p0.2 with
      | t i =>
        simp only [ho, zH5] at e
        obtain ⟨o, h3, h4⟩ := pre.has r0 h1 i (by
          obtain ⟨pp, h5, h6⟩ := List.mem_map.mp h2
          obtain ⟨oo, h7⟩ := (pre.ok r0 h1).ops pp h5
          have : opAt r0.ps pp.2 = oo := by simp [opAt, h7]
          rw [← h6] at ho
          simp only [this] at ho
          rw [← ho]; exact List.mem_of_getElem? h7)
        obtain ⟨z, hz, _⟩ := hd7 o (by simpa using pm2.mem_iff.mpr h3)
        rw [h4] at hz
        rw [hz] at e
        simp only [Option.getD_some, Op.x.injEq] at e
        have := hb i z hz
        simp only [List.nil_append] at this
        lia
      | a i =>
        rw [ho] at hs
        simp only [ho, zH5, Op.x.injEq] at e
        rcases hs with ⟨z, hz⟩ | hs
        · cases hz
        · simp only [Op.num] at hs; lia
      | y i => simp only [ho, zH5] at e; cases e
      | x i =>
        rw [ho] at hs
        simp only [ho, zH5, Op.x.injEq] at e
        rcases hs with ⟨z, hz⟩ | hs
        · cases hz
        · simp only [Op.num] at hs; lia
    · have : ¬ (60 : Int) < m := by lia
      simp! only [↓gt_f this]
      refine zB7 I9.wf (q H9 rl hm I9.le I9.wf (I7.le.none hrl) hr9 ⟨O7, fun o ho ht => ?_, fun o ho ht => ?_, hp7⟩)
      · refine mono _ _ ?_
        simp only [put1, List.nil_append, List.mem_filter, Bool.and_eq_true, Bool.not_eq_true', decide_eq_true_eq]
        exact ⟨ho, ht, trivial⟩
      · refine hd7 o ?_
        simp only [List.nil_append]
        exact pm2.mem_iff.mpr (List.mem_filter.mpr ⟨ho, ht⟩)
end
end
section
noncomputable def cVs (f : Expr → Option V) : List Expr → Option (List V)
  | [] => some []
  | e :: es => (f e).bind fun x => (cVs f es).map fun xs => x :: xs
noncomputable def cC : Const → Option V
  | .str s => some (.str s)
  | .int i => some (.int i)
  | _ => none
noncomputable def cV1 (f : Expr → Option V) : Expr → Option V
  | .Tuple es _ _ => (cVs f es).bind fun xs => if xs.length ≤ 1000 then some (.tup xs) else none
  | .Constant c _ _ => cC c
  | _ => none
noncomputable def cV : Nat → Expr → Option V
  | 0 => fun _ => none
  | n + 1 => cV1 (cV n)
section
variable {c : Cx} {d : Nat} {qn : Str} {sc : Scope} {nm : List Str}
theorem RE.mono {e : Expr} {w w' : Ls → Wp V} (h : RE c d qn sc nm e w) (le : ∀ l H Q, w' l H Q → w l H Q) : RE c d qn sc nm e w' := fun A r L a cd G l H s Q S q => h A r L a cd G l H s Q S (le _ _ _ q)
theorem RSs.mono {e : List Stmt} {w w' : Ls → Wp Fl} (h : RSs c d qn sc nm e w) (le : ∀ l H Q, w' l H Q → w l H Q) : RSs c d qn sc nm e w' := fun A r L a cd G l H s Q S q => h A r L a cd G l H s Q S (le _ _ _ q)
theorem REs.mono {e : List Expr} {w w' : Ls → Wp (List V)} (h : REs c d qn sc nm e w) (le : ∀ l H Q, w' l H Q → w l H Q) : REs c d qn sc nm e w' := fun A r L a cd p G l H s Q S q => h A r L a cd p G l H s Q S (le _ _ _ q)
theorem res_const {f : Expr → Option V} (hf : ∀ e x, f e = some x → RE c d qn sc nm e (zA5 x) ∧ ∀ es env, starEach (e :: es) env = (false, eval e env) :: starEach es env) (es : List Expr) : ∀ (xs : List V), cVs f es = some xs → REs c d qn sc nm es (fun _ H Q => Q xs H) := by
  induction es with
  | nil => exact fun xs h => Option.some.inj h ▸ zA7
  | cons e es ih =>
    intro xs h
    refine zC5 fun _ hk => ?_
    obtain ⟨x, h1, h⟩ := Option.bind_eq_some_iff.mp h
    obtain ⟨ys, h2, rfl⟩ := Option.map_eq_some_iff.mp h
    exact hk ((zA2 (hf e x h1).1 (ih ys h2) (by intro _; exact (hf e x h1).2 _ _)).mono fun _ _ _ q => q)
theorem re_const (n : Nat) : ∀ (e : Expr) (x : V), cV n e = some x → RE c d qn sc nm e (zA5 x) ∧ ∀ es env, starEach (e :: es) env = (false, eval e env) :: starEach es env := by
  induction n with
  | zero => exact fun e x h => noS h
  | succ n ih =>
    intro e x h
    cases e with
    | Tuple es _ _ =>
      refine zC5 fun _ hk => ?_
      obtain ⟨xs, hxs, h⟩ := Option.bind_eq_some_iff.mp h
      by_cases hl : xs.length ≤ 1000
      · rw [if_pos hl] at h
        obtain rfl := Option.some.inj h
        exact hk ⟨(zE7 (res_const ih _ xs hxs)).mono fun l H Q q => ⟨by lia, q⟩, fun _ _ => rfl⟩
      · rw [if_neg hl] at h; exact noS h
    | Constant k _ _ =>
      cases k with
      | str s => obtain rfl := Option.some.inj h; exact ⟨zC6, fun _ _ => rfl⟩
      | int i => obtain rfl := Option.some.inj h; exact ⟨zB2, fun _ _ => rfl⟩
      | _ => exact noS h
    | _ => exact noS h
noncomputable def retE (b : List Stmt) : Expr := ((b.head?.bind fun s => (fP s).2.2.2.2).getD (.Name "x" ⟨0, 0, 0, 0⟩))
theorem rss_const {n : Nat} {b : List Stmt} {x : V} (hb : ∃ p, b = [.Return (some (retE b)) p]) (h : cV n (retE b) = some x) : RSs c d qn sc nm b (zB3 (wRet (zA5 x)) zB6) := by
  obtain ⟨p, hb⟩ := hb
  have := re_const (c := c) (d := d) (qn := qn) (sc := sc) (nm := nm) n _ x h
  rw [hb]
  exact zA1 (zD4 this.1) zA6
end
noncomputable def retV (S : Stmt) : V := (cV 3 (retE (fBody S))).getD .none
theorem wb_const {x : V} {l : Ls} {H : AH} {Q : V → AH → Prop} (wf : WF H) (q : Q x H) : wBody (zB3 (wRet (zA5 x)) zB6) l H Q := zB7 wf q
noncomputable def isSome' {α : Type} : Option α → Bool | some _ => true | none => false
theorem some_of {α : Type} {o : Option α} {d : α} (h : isSome' o = true) : o = some (o.getD d) := by cases o with | none => cases h | some x => rfl
noncomputable abbrev sp60 : List V → Wp V := fun xs H Q => xs = [] ∧ Q (retV S60) H
noncomputable abbrev sp67 : List V → Wp V := fun xs H Q => xs = [] ∧ Q (retV S67) H
noncomputable def allStr : List V → Bool
  | [] => true
  | .str _ :: r => allStr r
  | _ => false
noncomputable def isS : V → Bool
  | .str _ => true
  | _ => false
noncomputable def isI : V → Bool
  | .int _ => true
  | _ => false
noncomputable def isP2 : List V → Bool
  | [x, y] => isS x && isI y
  | _ => false
noncomputable def isP : V → Bool
  | .tup xs => isP2 xs
  | _ => false
noncomputable def allPair : List V → Bool
  | [] => true
  | x :: r => isP x && allPair r
theorem isP_inv {x : V} (h : isP x = true) : ∃ s i, x = .tup [.str s, .int i] := by
  cases x with
  | tup xs =>
    rcases xs with _ | ⟨x, _ | ⟨y, _ | ⟨z, r⟩⟩⟩
    · exact noB h
    · exact noB h
    · obtain ⟨h1, h2⟩ := Bool.and_eq_true_iff.mp (show (isS x && isI y) = true from h)
      cases x with
      | str s =>
        cases y with
        | int i => exact ⟨s, i, rfl⟩
        | _ => exact noB h2
      | _ => exact noB h1
    · exact noB h
  | _ => exact noB h
noncomputable def tupIs (p : List V → Bool) : V → Bool
  | .tup xs => p xs && decide (xs.length ≤ 40)
  | _ => false
theorem val_of {S : Stmt} (h : isSome' (cV 3 (retE (fBody S))) = true) : cV 3 (retE (fBody S)) = some (retV S) := some_of h
theorem is60 : isSome' (cV 3 (retE (fBody S60))) = true := by kernel_rfl
theorem is67 : isSome' (cV 3 (retE (fBody S67))) = true := by kernel_rfl
theorem val60 : cV 3 (retE (fBody S60)) = some (retV S60) := val_of is60
theorem val67 : cV 3 (retE (fBody S67)) = some (retV S67) := val_of is67
theorem ret60 : tupIs allStr (retV S60) = true := by kernel_rfl
theorem ret67 : tupIs allPair (retV S67) = true := by kernel_rfl
theorem rf_const {c : Cx} {S : Stmt} {f : Addr} {qual : Str} {x : V} (hf : FnAt c.K f S qual) (hr : ∃ p, fBody S = [.Return (some (retE (fBody S))) p]) (h : cV 3 (retE (fBody S)) = some x)
    (hbind : ∀ pm cd vs, vs.length = ([] : List Str).length → bindArgs (fnOf (fName S) qual (fArgs S) (fBody S) (fScope S) .none .none .none pm none cd .none) ⟨vs, []⟩ = pure (([] : List Str).zip vs))
    (hcell : ∀ x ∈ (fScope S).names, x.2 ≠ .cell) (hco : (fScope S).isCoroutine = false) (hgen : (fScope S).isGenerator = false) (hk : (fScope S).kind = .function) : RF c 1 f (fun xs H Q => xs = [] ∧ Q x H) := by
  have hb : RSs c 0 qual (fScope S) (([] : List Str) ++ ([] : List Str)) (fBody S) (zB3 (wRet (zA5 x)) zB6) := rss_const (n := 3) hr h
  refine rf_of (ps := []) (rest := []) hf hb (fun xs H Q wf h => ?_) hbind (by decide) hcell (fun x h => by cases h) hco hgen hk
  obtain ⟨rfl, q⟩ := h
  exact ⟨rfl, wb_const wf q⟩
noncomputable def syF (a b c d : V) : List (Str × V) := [("texts", a), ("atom_numbers", b), ("functors", c), ("functor_numbers", d)]
theorem syF_t {a b c d : V} : List.lookup ("texts" : Str) (syF a b c d) = some a := by kernel_rfl
theorem syF_a {a b c d : V} : List.lookup ("atom_numbers" : Str) (syF a b c d) = some b := by kernel_rfl
theorem syF_f {a b c d : V} : List.lookup ("functors" : Str) (syF a b c d) = some c := by kernel_rfl
theorem syF_n {a b c d : V} : List.lookup ("functor_numbers" : Str) (syF a b c d) = some d := by kernel_rfl
theorem sy_p1 {a : V} : fput [] "texts" a = ([("texts", a)] : List (Str × V)) := by kernel_rfl
theorem sy_p2 {a b : V} : fput [("texts", a)] "atom_numbers" b = ([("texts", a), ("atom_numbers", b)] : List (Str × V)) := by kernel_rfl
theorem sy_p3 {a b c : V} : fput [("texts", a), ("atom_numbers", b)] "functors" c = ([("texts", a), ("atom_numbers", b), ("functors", c)] : List (Str × V)) := by kernel_rfl
theorem sy_p4 {a b c d : V} : fput [("texts", a), ("atom_numbers", b), ("functors", c)] "functor_numbers" d = syF a b c d := by kernel_rfl
theorem hA_te : attrHas 154 "texts" = true := by kernel_rfl
theorem hA_an : attrHas 154 "atom_numbers" = true := by kernel_rfl
theorem hA_fu : attrHas 154 "functors" = true := by kernel_rfl
theorem hA_fn : attrHas 154 "functor_numbers" = true := by kernel_rfl
noncomputable def IsS (H : AH) (a : Addr) (N : Nat) : Prop := ∃ es : List (Str × V), (∀ k v, look es k = some v → ∃ i, v = .int i) ∧ es.length ≤ N ∧ (H a = some (.dictS es) ∨ (es = [] ∧ ∃ ep, H a = some (.dictE ep)))
noncomputable def IsT (H : AH) (a : Addr) (N : Nat) : Prop := (∃ n, n ≤ N ∧ H a = some (.dictT n)) ∨ ∃ ep, H a = some (.dictE ep)
structure SyR (H : AH) (a d t1 t2 t3 t4 : Addr) (N : Nat) : Prop where
  at' : H a = some (.inst 154 d (syF (.ref t1) (.ref t2) (.ref t3) (.ref t4)))
  l1 : ∃ xs, H t1 = some (.list xs) ∧ xs.length ≤ N
  s2 : IsS H t2 N
  l3 : ∃ xs, H t3 = some (.list xs) ∧ xs.length ≤ N
  s4 : IsT H t4 N
  ne : t1 ≠ t3 ∧ t2 ≠ t4
inductive Sy (H : AH) (a : Addr) (N : Nat) : Prop
  | of : ∀ d t1 t2 t3 t4, (SyR H a d t1 t2 t3 t4 N) → Sy H a N
structure SyE (a : Addr) (H H' : AH) : Prop where
  keep : ∀ b o, H b = some o → b ∉ foot H a → H' b = some o
  new : ∀ b ∈ foot H' a, b ∈ foot H a ∨ H b = none
  wf : WF H'
theorem SyE.evo {a H H'} (x : SyE a H H') : Evo a H H' := ⟨x.keep, x.new, x.wf⟩
section
variable {H : AH} {a d t1 t2 t3 t4 : Addr} {N : Nat}
theorem SyR.foot (R : SyR H a d t1 t2 t3 t4 N) : Mine.foot H a = [a, d, t1, t2, t3, t4] := by
  unfold Mine.foot; rw [R.at']; rfl
theorem IsS.obj (h : IsS H a N) : ∃ o, H a = some o ∧ (∀ C d fs, o ≠ .inst C d fs) ∧ (∀ b, o ≠ .own b) ∧ (∀ xs, o ≠ .list xs) ∧ (∀ n, o ≠ .dictT n) := by
  obtain ⟨es, _, _, h | ⟨_, ep, h⟩⟩ := h
  · exact ⟨_, h, (by intro _ _ _ q; injection q), (by intro _ q; injection q), (by intro _ q; injection q), (by intro _ q; injection q)⟩
  · exact ⟨_, h, (by intro _ _ _ q; injection q), (by intro _ q; injection q), (by intro _ q; injection q), (by intro _ q; injection q)⟩
theorem IsT.obj (h : IsT H a N) : ∃ o, H a = some o ∧ (∀ C d fs, o ≠ .inst C d fs) ∧ (∀ b, o ≠ .own b) ∧ (∀ xs, o ≠ .list xs) := by
  obtain ⟨n, _, h⟩ | ⟨ep, h⟩ := h
  · exact ⟨_, h, (by intro _ _ _ q; injection q), (by intro _ q; injection q), (by intro _ q; injection q)⟩
  · exact ⟨_, h, (by intro _ _ _ q; injection q), (by intro _ q; injection q), (by intro _ q; injection q)⟩
theorem IsS.keep {H' : AH} (h : IsS H a N) (e : ∀ o, H a = some o → H' a = some o) : IsS H' a (N + 1) := by
  obtain ⟨es, h1, h2, h | ⟨h3, ep, h⟩⟩ := h
  · exact ⟨es, h1, by lia, .inl (e _ h)⟩
  · exact ⟨es, h1, by lia, .inr ⟨h3, ep, e _ h⟩⟩
theorem IsT.keep {H' : AH} (h : IsT H a N) (e : ∀ o, H a = some o → H' a = some o) : IsT H' a (N + 1) := by
  obtain ⟨n, h1, h⟩ | ⟨ep, h⟩ := h
  · exact .inl ⟨n, by lia, e _ h⟩
  · exact .inr ⟨ep, e _ h⟩
theorem IsS.okD (h : IsS H a N) : isDict H (.ref a) := by
  obtain ⟨es, _, _, h | ⟨_, ep, h⟩⟩ := h <;> simp [isDict, h]
theorem IsT.okD (h : IsT H a N) : isDict H (.ref a) := by
  obtain ⟨n, _, h⟩ | ⟨ep, h⟩ := h <;> simp [isDict, h]
theorem IsS.get (h : IsS H a N) {s : Str} {j : Int} {Q : V → AH → Prop} (q : ∀ i, Q (.int i) H) : wGet [.ref a, .str s, .int j] H Q := by
  obtain ⟨es, h1, _, h | ⟨_, ep, h⟩⟩ := h
  · dsimp only [wGet]; simp only [h]
    cases e : look es s with
    | none => exact q j
    | some v => obtain ⟨i, rfl⟩ := h1 s v e; exact q i
  · dsimp only [wGet]; simp only [h]; exact q j
theorem IsT.get (h : IsT H a N) {i j k : Int} {Q : V → AH → Prop} (q : ∀ i, Q (.int i) H) : wGet [.ref a, .tup [.int i, .int j], .int k] H Q := by
  obtain ⟨n, _, h⟩ | ⟨ep, h⟩ := h
  · dsimp only [wGet]; simp only [h]; exact q
  · dsimp only [wGet]; simp only [h]; exact q
theorem IsS.put (h : IsS H a N) (hN : N ≤ 900) {s : Str} {j : Int} {Q : Unit → AH → Prop} (q : ∀ o, (∀ C d fs, o ≠ .inst C d fs) → IsS (H.set a o) a (N + 1) → Q () (H.set a o)) : wPutI (.ref a) (.str s) (.int j) H Q := by
  obtain ⟨es, h1, h2, h | ⟨h3, ep, h⟩⟩ := h
  · dsimp only [wPutI]; simp only [h]
    refine ⟨by lia, q _ (by intro _ _ _ q; injection q) ⟨_, fun k v e => ?_, Nat.le_trans (length_dput ..) (by lia), .inl (AH.set_self ..)⟩⟩
    rw [look_dput] at e
    split at e
    · obtain rfl := Option.some.inj e; exact ⟨j, rfl⟩
    · exact h1 k v e
  · dsimp only [wPutI]; simp only [h]
    refine q _ (by intro _ _ _ q; injection q) ⟨[(s, .int j)], fun k v e => ?_, by simp, .inl (AH.set_self ..)⟩
    unfold look at e
    simp only [List.find?_cons] at e
    split at e
    · simp at e; exact ⟨j, e.symm⟩
    · simp at e
theorem IsT.put (h : IsT H a N) (hN : N ≤ 900) {i k j : Int} {Q : Unit → AH → Prop} (q : ∀ o, (∀ C d fs, o ≠ .inst C d fs) → IsT (H.set a o) a (N + 1) → Q () (H.set a o)) : wPutI (.ref a) (.tup [.int i, .int k]) (.int j) H Q := by
  obtain ⟨n, h1, h⟩ | ⟨ep, h⟩ := h
  · dsimp only [wPutI]; simp only [h]
    exact ⟨by lia, q _ (by intro _ _ _ q; injection q) (.inl ⟨n + 1, by lia, AH.set_self ..⟩)⟩
  · dsimp only [wPutI]; simp only [h]
    exact q _ (by intro _ _ _ q; injection q) (.inl ⟨1, by lia, AH.set_self ..⟩)
theorem SyR.evo (wf : WF H) (R : SyR H a d t1 t2 t3 t4 N) {b : Addr} (hb : b ∈ [t1, t2, t3, t4]) {o : AO} (hi : ∀ C d fs, o ≠ .inst C d fs) {ob : AO} (ho : H b = some ob) (h1 : ∀ C d fs, ob ≠ .inst C d fs) (h2 : ∀ b, ob ≠ .own b) : Evo a H (H.set b o) := by
  have nb : b ≠ a := fun z => by rw [z, R.at'] at ho; exact h1 _ _ _ (Option.some.inj ho).symm
  have ff := R.foot
  have ff' : Mine.foot (H.set b o) a = [a, d, t1, t2, t3, t4] := by simp only [← ff]; unfold Mine.foot; rw [AH.set_ne _ _ nb.symm]
  refine ⟨fun x ox e n => ?_, fun x hx => .inl (by rw [ff]; rw [ff'] at hx; exact hx), wf.upd ho hi h2⟩
  rw [AH.set_ne]
  · exact e
  · intro z; subst z; rw [ff] at n; exact n (List.mem_cons_of_mem _ (List.mem_cons_of_mem _ hb))
end
section
variable {c : Cx} (Fn : Fns c.K)
include Fn
theorem rf60 : RF c 1 60 sp60 := rf_const Fn.f60 ⟨_, rfl⟩ val60 (fun pm cd => len0 (by rfl)) (by decide +kernel) (by rfl) (by rfl) (by rfl)
theorem rf67 : RF c 1 67 sp67 := rf_const Fn.f67 ⟨_, rfl⟩ val67 (fun pm cd => len0 (by rfl)) (by decide +kernel) (by rfl) (by rfl) (by rfl)
end
end
section
theorem SyR.up {H H' : AH} {a d t1 t2 t3 t4 N} (R : SyR H a d t1 t2 t3 t4 N) (k : ∀ b ∈ [a, t1, t2, t3, t4], ∀ o, H b = some o → H' b = some o) : SyR H' a d t1 t2 t3 t4 (N + 1) := by
  refine zC5 fun _ hk => ?_
  obtain ⟨xs, h1, h1'⟩ := R.l1
  obtain ⟨ys, h3, h3'⟩ := R.l3
  refine hk ?_
  exact ⟨k _ (by simp) _ R.at', ⟨xs, k _ (by simp) _ h1, by lia⟩, R.s2.keep (k _ (by simp)), ⟨ys, k _ (by simp) _ h3, by lia⟩, R.s4.keep (k _ (by simp)), R.ne⟩
theorem Sy.up {H a N} (R : Sy H a N) : Sy H a (N + 1) := by
  obtain ⟨d, t1, t2, t3, t4, R⟩ := R
  exact ⟨d, t1, t2, t3, t4, R.up fun _ _ _ e => e⟩
inductive Sp88 (xs : List V) (H : AH) (Q : V → AH → Prop) : Prop
  | of : ∀ a N s, (xs = [.ref a, .str s]) → (Sy H a N) → (N ≤ 400) → (∀ H' i, Sy H' a (N + 1) → Evo a H H' → Q (.int i) H') → Sp88 xs H Q
noncomputable abbrev sp88 : List V → Wp V := Sp88
inductive Sp102 (xs : List V) (H : AH) (Q : V → AH → Prop) : Prop
  | of : ∀ a N i j, (xs = [.ref a, .int i, .int j]) → (Sy H a N) → (N ≤ 400) → (∀ H' i, Sy H' a (N + 1) → Evo a H H' → Q (.int i) H') → Sp102 xs H Q
noncomputable abbrev sp102 : List V → Wp V := Sp102
inductive Sp109 (xs : List V) (H : AH) (Q : V → AH → Prop) : Prop
  | of : ∀ a N s j, (xs = [.ref a, .str s, .int j]) → (Sy H a N) → (N ≤ 300) → (∀ H' i, Sy H' a (N + 2) → Evo a H H' → Q (.int i) H') → Sp109 xs H Q
noncomputable abbrev sp109 : List V → Wp V := Sp109
inductive Sp81 (xs : List V) (H : AH) (Q : V → AH → Prop) : Prop
  | of : ∀ a d, (xs = [.ref a]) → (H a = some (.inst 154 d [])) → (H d = some (.own a)) → (∀ H', Evo a H H' → Q .none H') → Sp81 xs H Q
noncomputable abbrev sp81 : List V → Wp V := Sp81
noncomputable def wb88 : Ls → Wp Fl := (zB3 (zG7 (zD2 isDict (wOne (zB1 0) (zJ3 (Str.ofString "atom_numbers"))) wGet (zA4 (zB1 1) (zA4 (wOne (zA5 (V.int 1)) wNeg) zB5))) 2) (zB3 (zG3 (zB4 (zC3 (zB1 2) (zA5 (V.int 0)) (wInt fun i j => V.bool (decide (j ≤ i))))) (zB3 (wRet (zB1 2)) zB6) zB6) (zB3 (zG7 (zD3 wLen (zA4 (wOne (zB1 0) (zJ3 (Str.ofString "texts"))) zB5)) 3) (zB3 (zG1 (zD2 zE1 (wOne (zB1 0) (zJ3 (Str.ofString "texts"))) zD1 (zA4 (zB1 1) zB5))) (zB3 (wAsgI (zB1 3) (wOne (zB1 0) (zJ3 (Str.ofString "atom_numbers"))) (zB1 1)) (zB3 (wRet (zB1 3)) zB6))))))
theorem wb88_ap {l : Ls} {H : AH} {Q : Fl → AH → Prop} : wb88 l H Q = (zB3 (zG7 (zD2 isDict (wOne (zB1 0) (zJ3 (Str.ofString "atom_numbers"))) wGet (zA4 (zB1 1) (zA4 (wOne (zA5 (V.int 1)) wNeg) zB5))) 2) (zB3 (zG3 (zB4 (zC3 (zB1 2) (zA5 (V.int 0)) (wInt fun i j => V.bool (decide (j ≤ i))))) (zB3 (wRet (zB1 2)) zB6) zB6) (zB3 (zG7 (zD3 wLen (zA4 (wOne (zB1 0) (zJ3 (Str.ofString "texts"))) zB5)) 3) (zB3 (zG1 (zD2 zE1 (wOne (zB1 0) (zJ3 (Str.ofString "texts"))) zD1 (zA4 (zB1 1) zB5))) (zB3 (wAsgI (zB1 3) (wOne (zB1 0) (zJ3 (Str.ofString "atom_numbers"))) (zB1 1)) (zB3 (wRet (zB1 3)) zB6)))))) l H Q := rfl
noncomputable def wb102 : Ls → Wp Fl := (zB3 (zG7 (wTup (zA4 (zB1 1) (zA4 (zB1 2) zB5))) 3) (zB3 (zG7 (zD2 isDict (wOne (zB1 0) (zJ3 (Str.ofString "functor_numbers"))) wGet (zA4 (zB1 3) (zA4 (wOne (zA5 (V.int 1)) wNeg) zB5))) 4) (zB3 (zG3 (zB4 (zC3 (zB1 4) (zA5 (V.int 0)) (wInt fun i j => V.bool (decide (j ≤ i))))) (zB3 (wRet (zB1 4)) zB6) zB6) (zB3 (zG7 (zD3 wLen (zA4 (wOne (zB1 0) (zJ3 (Str.ofString "functors"))) zB5)) 5) (zB3 (zG1 (zD2 zE1 (wOne (zB1 0) (zJ3 (Str.ofString "functors"))) zD1 (zA4 (zB1 3) zB5))) (zB3 (wAsgI (zB1 5) (wOne (zB1 0) (zJ3 (Str.ofString "functor_numbers"))) (zB1 3)) (zB3 (wRet (zB1 5)) zB6)))))))
theorem wb102_ap {l : Ls} {H : AH} {Q : Fl → AH → Prop} : wb102 l H Q = (zB3 (zG7 (wTup (zA4 (zB1 1) (zA4 (zB1 2) zB5))) 3) (zB3 (zG7 (zD2 isDict (wOne (zB1 0) (zJ3 (Str.ofString "functor_numbers"))) wGet (zA4 (zB1 3) (zA4 (wOne (zA5 (V.int 1)) wNeg) zB5))) 4) (zB3 (zG3 (zB4 (zC3 (zB1 4) (zA5 (V.int 0)) (wInt fun i j => V.bool (decide (j ≤ i))))) (zB3 (wRet (zB1 4)) zB6) zB6) (zB3 (zG7 (zD3 wLen (zA4 (wOne (zB1 0) (zJ3 (Str.ofString "functors"))) zB5)) 5) (zB3 (zG1 (zD2 zE1 (wOne (zB1 0) (zJ3 (Str.ofString "functors"))) zD1 (zA4 (zB1 3) zB5))) (zB3 (wAsgI (zB1 5) (wOne (zB1 0) (zJ3 (Str.ofString "functor_numbers"))) (zB1 3)) (zB3 (wRet (zB1 5)) zB6))))))) l H Q := rfl
noncomputable def wb109 : Ls → Wp Fl := (zB3 (wRet (wMeth 154 (zB1 0) sp102 (zA4 (wMeth 154 (zB1 0) sp88 (zA4 (zB1 1) zB5)) (zA4 (zB1 2) zB5)))) zB6)
theorem wb109_ap {l : Ls} {H : AH} {Q : Fl → AH → Prop} : wb109 l H Q = (zB3 (wRet (wMeth 154 (zB1 0) sp102 (zA4 (wMeth 154 (zB1 0) sp88 (zA4 (zB1 1) zB5)) (zA4 (zB1 2) zB5)))) zB6) l H Q := rfl
noncomputable def lb81_1 : Ls → Wp Fl := (zB3 (zG1 (wMeth 154 (zB1 0) sp109 (zA4 (zC3 (zB1 2) (zA5 (V.int 0)) zD5) (zA4 (zC3 (zB1 2) (zA5 (V.int 1)) zD5) zB5)))) zB6)
noncomputable def lb81_2 : Ls → Wp Fl := (zB3 (zG1 (wMeth 154 (zB1 0) sp88 (zA4 (zB1 1) zB5))) zB6)
noncomputable def wb81 : Ls → Wp Fl := (zB3 (wAsgA (zF5 zB5) (zB1 0) (Str.ofString "texts")) (zB3 (wAsgA wDict (zB1 0) (Str.ofString "atom_numbers")) (zB3 (wAsgA (zF5 zB5) (zB1 0) (Str.ofString "functors")) (zB3 (wAsgA wDict (zB1 0) (Str.ofString "functor_numbers")) (zB3 (wFor (zD3 sp60 zB5) (zG2 1) lb81_2) (zB3 (wFor (zD3 sp67 zB5) (zG2 2) lb81_1) zB6))))))
theorem lb81_1_ap {l : Ls} {H : AH} {Q : Fl → AH → Prop} : lb81_1 l H Q = (zB3 (zG1 (wMeth 154 (zB1 0) sp109 (zA4 (zC3 (zB1 2) (zA5 (V.int 0)) zD5) (zA4 (zC3 (zB1 2) (zA5 (V.int 1)) zD5) zB5)))) zB6) l H Q := rfl
theorem lb81_2_ap {l : Ls} {H : AH} {Q : Fl → AH → Prop} : lb81_2 l H Q = (zB3 (zG1 (wMeth 154 (zB1 0) sp88 (zA4 (zB1 1) zB5))) zB6) l H Q := rfl
theorem wb81_ap {l : Ls} {H : AH} {Q : Fl → AH → Prop} : wb81 l H Q = (zB3 (wAsgA (zF5 zB5) (zB1 0) (Str.ofString "texts")) (zB3 (wAsgA wDict (zB1 0) (Str.ofString "atom_numbers")) (zB3 (wAsgA (zF5 zB5) (zB1 0) (Str.ofString "functors")) (zB3 (wAsgA wDict (zB1 0) (Str.ofString "functor_numbers")) (zB3 (wFor (zD3 sp60 zB5) (zG2 1) lb81_2) (zB3 (wFor (zD3 sp67 zB5) (zG2 2) lb81_1) zB6)))))) l H Q := rfl
theorem SyR.put12 {H : AH} (wf : WF H) {a d t1 t2 t3 t4 N} (R : SyR H a d t1 t2 t3 t4 N) {xs : List V} {x : V} (h1 : H t1 = some (.list xs)) (hl : xs.length ≤ N) (hN : N ≤ 900) {s : Str} {j : Int} {Q : Unit → AH → Prop} (q : ∀ H', Sy H' a (N + 1) → Evo a H H' → Q () H') :
    wPutI (.ref t2) (.str s) (.int j) (H.set t1 (.list (xs ++ [x]))) Q := by
  refine zC5 fun _ hk => ?_
  obtain ⟨o2, e2, i2, w2, l2, d2⟩ := R.s2.obj
  obtain ⟨o4, e4, i4, w4, l4⟩ := R.s4.obj
  obtain ⟨ys, h3, h3'⟩ := R.l3
  have n21 : t2 ≠ t1 := fun z => by rw [z, h1] at e2; exact l2 _ (Option.some.inj e2).symm
  have n41 : t4 ≠ t1 := fun z => by rw [z, h1] at e4; exact l4 _ (Option.some.inj e4).symm
  have n23 : t2 ≠ t3 := fun z => by rw [z, h3] at e2; exact l2 _ (Option.some.inj e2).symm
  have na1 : a ≠ t1 := fun z => by have := R.at'; simp only [z, h1] at this; cases this
  have na2 : a ≠ t2 := fun z => by have := R.at'; rw [z, e2] at this; exact i2 _ _ _ (Option.some.inj this)
  have s2' : IsS (H.set t1 (.list (xs ++ [x]))) t2 N := by
    obtain ⟨es, g1, g2, g3⟩ := R.s2
    exact ⟨es, g1, g2, by rw [AH.set_ne _ _ n21]; exact g3⟩
  refine hk ?_
  refine s2'.put hN fun o hi hs => ?_
  have E1 := R.evo wf (b := t1) (by simp) (o := .list (xs ++ [x])) (by intro _ _ _ q; injection q) h1 (by intro _ _ _ q; injection q) (by intro _ q; injection q)
  have ff : Mine.foot (H.set t1 (.list (xs ++ [x]))) a = [a, d, t1, t2, t3, t4] := by simp only [← R.foot]; unfold Mine.foot; rw [AH.set_ne _ _ na1]
  have e2' : (H.set t1 (.list (xs ++ [x]))) t2 = some o2 := by rw [AH.set_ne _ _ n21]; exact e2
  have E2 : Evo a (H.set t1 (.list (xs ++ [x]))) ((H.set t1 (.list (xs ++ [x]))).set t2 o) := by
    refine ⟨fun b ob e n => ?_, fun b m => .inl ?_, E1.wf.upd e2' hi w2⟩
    · rw [AH.set_ne]
      · exact e
      · intro z; simp only [ff, z] at n; exact n (by simp)
    · unfold Mine.foot at m ⊢
      rw [AH.set_ne _ _ na2] at m; exact m
  refine q _ ⟨d, t1, t2, t3, t4, ?_, ⟨xs ++ [x], ?_, by simp; lia⟩, hs, ⟨ys, ?_, by lia⟩, ?_, R.ne⟩ (E1.trans E2)
  · rw [AH.set_ne _ _ na2, AH.set_ne _ _ na1]; exact R.at'
  · rw [AH.set_ne _ _ n21.symm, AH.set_self]
  · rw [AH.set_ne _ _ n23.symm, AH.set_ne _ _ R.ne.1.symm]; exact h3
  · exact R.s4.keep fun o e => by rw [AH.set_ne _ _ R.ne.2.symm, AH.set_ne _ _ n41]; exact e
theorem SyR.put34 {H : AH} (wf : WF H) {a d t1 t2 t3 t4 N} (R : SyR H a d t1 t2 t3 t4 N) {xs : List V} {x : V} (h1 : H t3 = some (.list xs)) (hl : xs.length ≤ N) (hN : N ≤ 900) {i k j : Int} {Q : Unit → AH → Prop} (q : ∀ H', Sy H' a (N + 1) → Evo a H H' → Q () H') :
    wPutI (.ref t4) (.tup [.int i, .int k]) (.int j) (H.set t3 (.list (xs ++ [x]))) Q := by
  refine zC5 fun _ hk => ?_
  obtain ⟨o2, e2, i2, w2, l2, d2⟩ := R.s2.obj
  obtain ⟨o4, e4, i4, w4, l4⟩ := R.s4.obj
  obtain ⟨ys, h3, h3'⟩ := R.l1
  have n21 : t2 ≠ t3 := fun z => by rw [z, h1] at e2; exact l2 _ (Option.some.inj e2).symm
  have n41 : t4 ≠ t3 := fun z => by rw [z, h1] at e4; exact l4 _ (Option.some.inj e4).symm
  have n43 : t4 ≠ t1 := fun z => by rw [z, h3] at e4; exact l4 _ (Option.some.inj e4).symm
  have na1 : a ≠ t3 := fun z => by have := R.at'; simp only [z, h1] at this; cases this
  have na2 : a ≠ t4 := fun z => by have := R.at'; rw [z, e4] at this; exact i4 _ _ _ (Option.some.inj this)
  have s4' : IsT (H.set t3 (.list (xs ++ [x]))) t4 N := by
    obtain ⟨n, g1, g2⟩ | ⟨ep, g⟩ := R.s4
    · exact .inl ⟨n, g1, by rw [AH.set_ne _ _ n41]; exact g2⟩
    · exact .inr ⟨ep, by rw [AH.set_ne _ _ n41]; exact g⟩
  refine hk ?_
  refine s4'.put hN fun o hi hs => ?_
  have E1 := R.evo wf (b := t3) (by simp) (o := .list (xs ++ [x])) (by intro _ _ _ q; injection q) h1 (by intro _ _ _ q; injection q) (by intro _ q; injection q)
  have ff : Mine.foot (H.set t3 (.list (xs ++ [x]))) a = [a, d, t1, t2, t3, t4] := by simp only [← R.foot]; unfold Mine.foot; rw [AH.set_ne _ _ na1]
  have e4' : (H.set t3 (.list (xs ++ [x]))) t4 = some o4 := by rw [AH.set_ne _ _ n41]; exact e4
  have E2 : Evo a (H.set t3 (.list (xs ++ [x]))) ((H.set t3 (.list (xs ++ [x]))).set t4 o) := by
    refine ⟨fun b ob e n => ?_, fun b m => .inl ?_, E1.wf.upd e4' hi w4⟩
    · rw [AH.set_ne]
      · exact e
      · intro z; simp only [ff, z] at n; exact n (by simp)
    · unfold Mine.foot at m ⊢
      rw [AH.set_ne _ _ na2] at m; exact m
  refine q _ ⟨d, t1, t2, t3, t4, ?_, ⟨ys, ?_, by lia⟩, ?_, ⟨xs ++ [x], ?_, by simp; lia⟩, hs, R.ne⟩ (E1.trans E2)
  · rw [AH.set_ne _ _ na2, AH.set_ne _ _ na1]; exact R.at'
  · rw [AH.set_ne _ _ n43.symm, AH.set_ne _ _ R.ne.1]; exact h3
  · exact R.s2.keep fun o e => by rw [AH.set_ne _ _ R.ne.2, AH.set_ne _ _ n21]; exact e
  · rw [AH.set_ne _ _ n41.symm, AH.set_self]
section
variable {c : Cx} (Fn : Fns c.K)
include Fn
theorem rf88 : RF c 1 88 sp88 := by
  have hnd : ((["self", "text"] : List Str) ++ (["found", "number"] : List Str)).Nodup := by decide
  refine rf_of (ps := (["self", "text"] : List Str)) (rest := (["found", "number"] : List Str)) Fn.f88 (zA1 (zD6 2 (zD7 (zF3 (zA3 0) zF2) rb_get (zA2 (zA3 1) (zA2 (re_un zB2 rv_neg) zA7)) (gm_dict F.slot_dict_get) _)) (zA1 (zE5 (zC4 (zA3 2) zB2 rv_ge) (zA1 (zD4 (zA3 2)) zA6) zA6) (zA1 (zD6 3 (zH2 _ rb_len (zA2 (zF3 (zA3 0) zF2) zA7))) (zA1 (zG6 (zD7 (zF3 (zA3 0) zF2) zF7 (zA2 (zA3 1) zA7) (gm_list F.slot_list_append) _)) (zA1 (rs_asgI (zA3 3) (zF3 (zA3 0) zF2) (zA3 1)) (zA1 (zD4 (zA3 3)) zA6)))))) ?_ (fun pm cd => len2 (fun _ _ => by rfl))
  rintro xs H Q wf ⟨a, N, s, rfl, RR, hN, q⟩
  refine ⟨rfl, ?_⟩
  show wBody wb88 _ H _
  obtain ⟨d, t1, t2, t3, t4, R⟩ := RR
  simp! only [↓wb88_ap, ↓neg_int, ↓m1_ R.at', ↓at_ R.at' syF_a rfl]
  refine ⟨R.s2.okD, R.s2.get fun i => ?_⟩
  obtain ⟨ys, h1, h1'⟩ := R.l1
  by_cases h : 0 ≤ i
  · simp! only [↓ge_t h]
    exact zB7 wf (q _ i (Sy.up ⟨d, t1, t2, t3, t4, R⟩) (Evo.refl wf))
  · have z0 := h
    have na : a ≠ t1 := fun z => by have := R.at'; rw [z, h1] at this; cases this
    simp! only [↓ge_f h, ↓m1_ R.at', ↓at_ R.at' syF_t rfl, ↓len_list h1 (show ys.length ≤ 1000000 by lia), ↓ok_list h1, ↓zH3 h1 (show ys.length ≤ 1000000 by lia), ↓at_ ((AH.set_ne _ _ na).trans R.at') syF_a rfl]
    exact R.put12 wf h1 h1' (by lia) fun H' S' E' => zB7 E'.wf (q _ _ S' E')
theorem rf102 : RF c 1 102 sp102 := by
  have hnd : ((["self", "atom", "arity"] : List Str) ++ (["key", "found", "number"] : List Str)).Nodup := by decide
  refine rf_of (ps := (["self", "atom", "arity"] : List Str)) (rest := (["key", "found", "number"] : List Str)) Fn.f102 (zA1 (zD6 3 (zE7 (zA2 (zA3 1) (zA2 (zA3 2) zA7)))) (zA1 (zD6 4 (zD7 (zF3 (zA3 0) zF2) rb_get (zA2 (zA3 3) (zA2 (re_un zB2 rv_neg) zA7)) (gm_dict F.slot_dict_get) _)) (zA1 (zE5 (zC4 (zA3 4) zB2 rv_ge) (zA1 (zD4 (zA3 4)) zA6) zA6) (zA1 (zD6 5 (zH2 _ rb_len (zA2 (zF3 (zA3 0) zF2) zA7))) (zA1 (zG6 (zD7 (zF3 (zA3 0) zF2) zF7 (zA2 (zA3 3) zA7) (gm_list F.slot_list_append) _)) (zA1 (rs_asgI (zA3 5) (zF3 (zA3 0) zF2) (zA3 3)) (zA1 (zD4 (zA3 5)) zA6))))))) ?_ (fun pm cd => len3 (fun _ _ _ => by rfl))
  rintro xs H Q wf ⟨a, N, i0, j0, rfl, RR, hN, q⟩
  refine ⟨rfl, ?_⟩
  show wBody wb102 _ H _
  obtain ⟨d, t1, t2, t3, t4, R⟩ := RR
  simp! only [↓wb102_ap, ↓neg_int, ↓m1_ R.at', ↓at_ R.at' syF_n rfl]
  refine ⟨by lia, R.s4.okD, R.s4.get fun i => ?_⟩
  obtain ⟨ys, h1, h1'⟩ := R.l3
  by_cases h : 0 ≤ i
  · simp! only [↓ge_t h]
    exact zB7 wf (q _ i (Sy.up ⟨d, t1, t2, t3, t4, R⟩) (Evo.refl wf))
  · have z0 := h
    have na : a ≠ t3 := fun z => by have := R.at'; rw [z, h1] at this; cases this
    simp! only [↓ge_f h, ↓m1_ R.at', ↓at_ R.at' syF_f rfl, ↓len_list h1 (show ys.length ≤ 1000000 by lia), ↓ok_list h1, ↓zH3 h1 (show ys.length ≤ 1000000 by lia), ↓at_ ((AH.set_ne _ _ na).trans R.at') syF_n rfl]
    exact R.put34 wf h1 h1' (by lia) fun H' S' E' => zB7 E'.wf (q _ _ S' E')
theorem rf109 : RF c 2 109 sp109 := by
  have h102 := (rf102 Fn : RF c 1 102 sp102)
  have h88 := (rf88 Fn : RF c 1 88 sp88)
  have hnd : ((["self", "text", "arity"] : List Str) ++ ([] : List Str)).Nodup := by decide
  refine rf_of (ps := (["self", "text", "arity"] : List Str)) (rest := ([] : List Str)) Fn.f109 (zA1 (zD4 (zJ1 (f := 102) 154 (zA3 0) h102 (zA2 (zJ1 (f := 88) 154 (zA3 0) h88 (zA2 (zA3 1) zA7) _) (zA2 (zA3 2) zA7)) _)) zA6) ?_ (fun pm cd => len3 (fun _ _ _ => by rfl))
  rintro xs H Q wf ⟨a, N, s, j, rfl, RR, hN, q⟩
  refine ⟨rfl, ?_⟩
  show wBody wb109 _ H _
  have RR' := RR
  obtain ⟨d, t1, t2, t3, t4, R⟩ := RR
  simp! only [↓wb109_ap, ↓m1_ R.at']
  refine ⟨a, N, s, rfl, RR', by lia, fun H1 i R1 E1 => ?_⟩
  refine ⟨a, N + 1, i, j, rfl, R1, by lia, fun H2 i2 R2 E2 => ?_⟩
  exact zB7 E2.wf (q _ _ R2 (E1.trans E2))
end
end
section
theorem sy_loop1 {a : Addr} (src : Src) (hs : ∃ ys, src = .tup ys) (K : Fl → AH → Prop) : ∀ (xs : List V) (H : AH) (N : Nat) (x1 x2 : Option V), allStr xs = true → WF H → Sy H a N → N + xs.length ≤ 200 →
    (∀ H' x1', Sy H' a (N + xs.length) → Evo a H H' → K (.next [some (.ref a), x1', x2]) H') → wLoop src (zG2 1) lb81_2 xs [some (.ref a), x1, x2] H K := by
  intro zz
  induction zz with
  | nil =>
    intro H N x1 x2 hx wf S hN k
    exact k H x1 S (Evo.refl wf)
  | cons x xs ih =>
    intro H N x1 x2 hx wf S hN k
    have ih := ih
    simp only [List.length_cons] at hN
    rw [lp_cons]
    cases x with
    | str s =>
      have S' := S
      obtain ⟨d, t1, t2, t3, t4, R⟩ := S
      simp! only [↓lb81_2_ap, ↓m1_ R.at']
      refine ⟨a, N, s, rfl, S', by lia, fun H1 i R1 E1 => ?_⟩
      refine ⟨by obtain ⟨ys, rfl⟩ := hs; trivial, ?_⟩
      refine ih H1 (N + 1) _ _ hx E1.wf R1 (by lia) fun H2 x1' R2 E2 => k H2 x1' ?_ (E1.trans E2)
      rw [show N + (V.str s :: xs).length = N + 1 + xs.length by simp; lia]; exact R2
    | _ => cases hx
theorem sy_loop2 {a : Addr} (src : Src) (hs : ∃ ys, src = .tup ys) (K : Fl → AH → Prop) : ∀ (xs : List V) (H : AH) (N : Nat) (x1 x2 : Option V), allPair xs = true → WF H → Sy H a N → N + 2 * xs.length ≤ 250 →
    (∀ H' l, Evo a H H' → K (.next l) H') → wLoop src (zG2 2) lb81_1 xs [some (.ref a), x1, x2] H K := by
  intro zz
  induction zz with
  | nil =>
    intro H N x1 x2 hx wf S hN k
    exact k H _ (Evo.refl wf)
  | cons x xs ih =>
    intro H N x1 x2 hx wf S hN k
    have ih := ih
    simp only [List.length_cons] at hN
    rw [lp_cons]
    obtain ⟨h1, hx⟩ := Bool.and_eq_true_iff.mp (show (isP x && allPair xs) = true from hx)
    obtain ⟨s, j, rfl⟩ := isP_inv h1
    have S' := S
    obtain ⟨d, t1, t2, t3, t4, R⟩ := S
    simp! only [↓lb81_1_ap, ↓m1_ R.at', ↓sub_pair0, ↓sub_pair1]
    refine ⟨a, N, s, j, rfl, S', by lia, fun H1 i R1 E1 => ?_⟩
    refine ⟨by obtain ⟨ys, rfl⟩ := hs; trivial, ?_⟩
    exact ih H1 (N + 2) _ _ hx E1.wf R1 (by lia) fun H2 l E2 => k H2 l (E1.trans E2)
structure OwnC (C a d : Addr) (H0 : AH) (fs : List (Str × V)) (H : AH) : Prop where
  wf : WF H
  at' : H a = some (.inst C d fs)
  kp : Kp a H0 H
theorem OwnC.step {C a d : Addr} {H0 H : AH} {fs} (O : OwnC C a d H0 fs H) {n : Addr} (hn : H n = none) (name : Str) {o : AO} (hi : ∀ C d fs, o ≠ .inst C d fs) :
    OwnC C a d H0 (fput fs name (.ref n)) ((H.set n o).set a (.inst C d (fput fs name (.ref n)))) ∧ ((H.set n o).set a (.inst C d (fput fs name (.ref n)))) n = some o ∧ n ≠ a ∧ H0 n = none ∧
    Kp a H ((H.set n o).set a (.inst C d (fput fs name (.ref n)))) := by
  have na := (AH.ne_of O.at' hn).symm
  refine ⟨⟨WF.own (O.wf.new hn hi) (fs := fs) ?_, AH.set_self .., O.kp.trans (Kp.new hn)⟩, ?_, na, O.kp.none na hn, Kp.new hn⟩
  · rw [AH.set_ne _ _ na.symm]; exact O.at'
  · rw [AH.set_ne _ _ na]; exact AH.set_self ..
theorem tupIs_inv {p : List V → Bool} {x : V} (h : tupIs p x = true) : ∃ xs, x = .tup xs ∧ p xs = true ∧ xs.length ≤ 40 := by
  cases x with
  | tup xs => obtain ⟨h1, h2⟩ := Bool.and_eq_true_iff.mp (show (p xs && decide (xs.length ≤ 40)) = true from h); exact ⟨xs, rfl, h1, of_decide_eq_true h2⟩
  | _ => injection h
section
variable {c : Cx} (Fn : Fns c.K)
include Fn
theorem rf81 : RF c 3 81 sp81 := by
  have h60 := ((rf60 Fn).mono (by lia : 1 ≤ 2) : RF c 2 60 sp60)
  have h67 := ((rf67 Fn).mono (by lia : 1 ≤ 2) : RF c 2 67 sp67)
  have h88 := ((rf88 Fn).mono (by lia : 1 ≤ 2) : RF c 2 88 sp88)
  have h109 := (rf109 Fn : RF c 2 109 sp109)
  have hnd : ((["self"] : List Str) ++ (["text", "row"] : List Str)).Nodup := by decide
  refine rf_of (ps := (["self"] : List Str)) (rest := (["text", "row"] : List Str)) Fn.f81 (zA1 (rs_asgA (zE2 zA7) (zA3 0)) (zA1 (rs_asgA re_dict (zA3 0)) (zA1 (rs_asgA (zE2 zA7) (zA3 0)) (zA1 (rs_asgA re_dict (zA3 0)) (zA1 (rs_for (zE6 (f := 60) h60 zA7) (tg_name 1) (zA1 (zG6 (zJ1 (f := 88) 154 (zA3 0) h88 (zA2 (zA3 1) zA7) _)) zA6)) (zA1 (rs_for (zE6 (f := 67) h67 zA7) (tg_name 2) (zA1 (zG6 (zJ1 (f := 109) 154 (zA3 0) h109 (zA2 (zC2 (zA3 2) zB2 zC1) (zA2 (zC2 (zA3 2) zB2 zC1) zA7)) _)) zA6)) zA6)))))) ?_ (fun pm cd => len1 (fun _ => by rfl))
  rintro xs H Q wf ⟨a, d, rfl, ha, hd, q⟩
  refine ⟨rfl, ?_⟩
  show wBody wb81 _ H _
  obtain ⟨as, ea, pa, la⟩ := tupIs_inv ret60
  obtain ⟨bs, eb, pb, lb⟩ := tupIs_inv ret67
  simp! only [↓wb81_ap]
  have O0 : OwnC 154 a d H [] H := ⟨wf, ha, fun _ _ _ e => e⟩
  refine ⟨by lia, fun n1 f1 => ?_⟩
  obtain ⟨O1, z1, m1, g1, k1⟩ := O0.step f1 "texts" (o := .list []) (by intro _ _ _ q; cases q)
  simp! only [↓put_new O0.at' f1 hA_te]
  intro n2 f2
  obtain ⟨O2, z2, m2, g2, k2⟩ := O1.step f2 "atom_numbers" (o := .dictE 0) (by intro _ _ _ q; cases q)
  simp! only [↓put_new O1.at' f2 hA_an]
  refine ⟨by lia, fun n3 f3 => ?_⟩
  obtain ⟨O3, z3, m3, g3, k3⟩ := O2.step f3 "functors" (o := .list []) (by intro _ _ _ q; cases q)
  simp! only [↓put_new O2.at' f3 hA_fu]
  intro n4 f4
  obtain ⟨O4, z4, m4, g4, k4⟩ := O3.step f4 "functor_numbers" (o := .dictE 0) (by intro _ _ _ q; cases q)
  simp! only [↓put_new O3.at' f4 hA_fn]
  rw [sy_p1] at *
  rw [sy_p2] at *
  rw [sy_p3] at *
  rw [sy_p4] at *
  have z1' := k2 _ _ m1 z1
  have z1'' := k3 _ _ m1 z1'
  have z1''' := k4 _ _ m1 z1''
  have z2' := k3 _ _ m2 z2
  have z2'' := k4 _ _ m2 z2'
  have z3' := k4 _ _ m3 z3
  have y13 := AH.ne_of z1' f3
  have y24 := AH.ne_of z2' f4
  generalize hH4 : ((_ : AH).set n4 (.dictE 0)).set a (.inst 154 d (syF (.ref n1) (.ref n2) (.ref n3) (.ref n4))) = H4 at *
  have R : SyR H4 a d n1 n2 n3 n4 0 := ⟨O4.at', ⟨[], z1''', by simp⟩, ⟨[], (fun _ _ e => by cases e), by simp, .inr ⟨rfl, 0, z2''⟩⟩, ⟨[], z3', by simp⟩, .inr ⟨0, z4⟩, y13, y24⟩
  have E : Evo a H H4 := by
    refine ⟨fun b o e nf => O4.kp b o (fun z => nf (by unfold foot; rw [ha, z]; simp)) e, fun b m => ?_, O4.wf⟩
    rw [R.foot] at m
    unfold foot; rw [ha]
    simp only [List.mem_cons, List.not_mem_nil, or_false] at m
    rcases m with h | h | h | h | h | h
    · exact .inl (by simp [h])
    · exact .inl (by simp [h])
    · exact .inr (by rw [h]; exact g1)
    · exact .inr (by rw [h]; exact g2)
    · exact .inr (by rw [h]; exact g3)
    · exact .inr (by rw [h]; exact g4)
  simp! only [↓wFor]
  refine ⟨rfl, ?_⟩
  rw [ea]
  refine ⟨.tup as, .tup, trivial, ?_⟩
  refine sy_loop1 (.tup as) ⟨_, rfl⟩ _ as H4 0 none none pa E.wf ⟨_, _, _, _, _, R⟩ (by lia) fun H5 x1' S5 E5 => ?_
  simp! only [↓wFor]
  refine ⟨rfl, ?_⟩
  rw [eb]
  refine ⟨.tup bs, .tup, trivial, ?_⟩
  refine sy_loop2 (.tup bs) ⟨_, rfl⟩ _ bs H5 _ x1' none pb E5.wf S5 (by lia) fun H6 l E6 => ?_
  exact zB7 E6.wf (q _ ((E.trans E5).trans E6))
end
end
section
structure TapeR (H : AH) (ta ca : Addr) (cells : List Int) (i k : Int) : Prop where
  t : H ta = some (.list [.ref ca, .int i, .int k])
  c : H ca = some (.list (cells.map V.int))
  ne : ta ≠ ca
  i0 : 0 ≤ i
  i1 : i ≤ cells.length
  few : cells.length ≤ 60
inductive Tape (H : AH) (ta ca : Addr) : Prop
  | of : ∀ cells i k, (TapeR H ta ca cells i k) → Tape H ta ca
inductive Sp422 (xs : List V) (H : AH) (Q : V → AH → Prop) : Prop
  | of : ∀ (ta ca : Addr) (lim : Int), (xs = [.ref ta, .int lim]) → (Tape H ta ca) → (0 < lim) → (lim < 1000) → (∀ (v : Int) H', 0 ≤ v → v < lim → Tape H' ta ca → (∀ b, b ≠ ta → b ≠ ca → H' b = H b) → WF H' → Q (.int v) H') → Sp422 xs H Q
noncomputable abbrev sp422 : List V → Wp V := Sp422
noncomputable def wb422 : Ls → Wp Fl := (zB3 (zG3 (zB4 (zC3 (zC3 (zB1 0) (zA5 (V.int 1)) zD5) (zD3 wLen (zA4 (zC3 (zB1 0) (zA5 (V.int 0)) zD5) zB5)) (wInt fun i j => V.bool (decide (j ≤ i))))) (zB3 (wRet (zA5 (V.int 0))) zB6) zB6) (zB3 (zG7 (zC3 (zC3 (zB1 0) (zA5 (V.int 0)) zD5) (zC3 (zB1 0) (zA5 (V.int 1)) zD5) zD5) 2) (zB3 (zG7 (zC3 (zB1 2) (zB1 1) wMod) 3) (zB3 (zG7 (zC3 (zB1 2) (zB1 1) wDiv) 4) (zB3 (wAugI (zB1 0) (zA5 (V.int 2)) (zA5 (V.int 1))) (zB3 (zG3 (wOrB (zB4 (zC3 (zB1 4) (zA5 (V.int 0)) wEq)) (wOrB (zB4 (zC3 (zB1 4) (wOne (zA5 (V.int 1)) wNeg) wEq)) (wOrB (zB4 (zC3 (zC3 (zB1 0) (zA5 (V.int 2)) zD5) (zA5 (V.int 30)) wEq)) (wTrue false)))) (zB3 (wAugI (zB1 0) (zA5 (V.int 1)) (zA5 (V.int 1))) (zB3 (wAsgI (zA5 (V.int 0)) (zB1 0) (zA5 (V.int 2))) zB6)) (zB3 (wAsgI (zB1 4) (zC3 (zB1 0) (zA5 (V.int 0)) zD5) (zC3 (zB1 0) (zA5 (V.int 1)) zD5)) zB6)) (zB3 (wRet (zB1 3)) zB6)))))))
theorem wb422_ap {l : Ls} {H : AH} {Q : Fl → AH → Prop} : wb422 l H Q = (zB3 (zG3 (zB4 (zC3 (zC3 (zB1 0) (zA5 (V.int 1)) zD5) (zD3 wLen (zA4 (zC3 (zB1 0) (zA5 (V.int 0)) zD5) zB5)) (wInt fun i j => V.bool (decide (j ≤ i))))) (zB3 (wRet (zA5 (V.int 0))) zB6) zB6) (zB3 (zG7 (zC3 (zC3 (zB1 0) (zA5 (V.int 0)) zD5) (zC3 (zB1 0) (zA5 (V.int 1)) zD5) zD5) 2) (zB3 (zG7 (zC3 (zB1 2) (zB1 1) wMod) 3) (zB3 (zG7 (zC3 (zB1 2) (zB1 1) wDiv) 4) (zB3 (wAugI (zB1 0) (zA5 (V.int 2)) (zA5 (V.int 1))) (zB3 (zG3 (wOrB (zB4 (zC3 (zB1 4) (zA5 (V.int 0)) wEq)) (wOrB (zB4 (zC3 (zB1 4) (wOne (zA5 (V.int 1)) wNeg) wEq)) (wOrB (zB4 (zC3 (zC3 (zB1 0) (zA5 (V.int 2)) zD5) (zA5 (V.int 30)) wEq)) (wTrue false)))) (zB3 (wAugI (zB1 0) (zA5 (V.int 1)) (zA5 (V.int 1))) (zB3 (wAsgI (zA5 (V.int 0)) (zB1 0) (zA5 (V.int 2))) zB6)) (zB3 (wAsgI (zB1 4) (zC3 (zB1 0) (zA5 (V.int 0)) zD5) (zC3 (zB1 0) (zA5 (V.int 1)) zD5)) zB6)) (zB3 (wRet (zB1 3)) zB6))))))) l H Q := rfl
theorem sub3_0 {H : AH} {a : Addr} {x y z : V} (h : H a = some (.list [x, y, z])) {Q : V → AH → Prop} : zD5 (.ref a) (.int 0) H Q = Q x H := sub_list (i := 0) h rfl (by lia)
theorem sub3_1 {H : AH} {a : Addr} {x y z : V} (h : H a = some (.list [x, y, z])) {Q : V → AH → Prop} : zD5 (.ref a) (.int 1) H Q = Q y H := sub_list (i := 1) h rfl (by lia)
theorem sub3_2 {H : AH} {a : Addr} {x y z : V} (h : H a = some (.list [x, y, z])) {Q : V → AH → Prop} : zD5 (.ref a) (.int 2) H Q = Q z H := sub_list (i := 2) h rfl (by lia)
theorem put3_1 {H : AH} {a : Addr} {x y z v : V} (h : H a = some (.list [x, y, z])) {Q : Unit → AH → Prop} : wPutI (.ref a) (.int 1) v H Q = Q () (H.set a (.list [x, v, z])) := by
  dsimp only [wPutI]; simp [h]
theorem put3_2 {H : AH} {a : Addr} {x y z v : V} (h : H a = some (.list [x, y, z])) {Q : Unit → AH → Prop} : wPutI (.ref a) (.int 2) v H Q = Q () (H.set a (.list [x, y, v])) := by
  dsimp only [wPutI]; simp [h]
theorem add1_int {i j : Int} {H : AH} {Q : V → AH → Prop} : wAdd1 (.int i) (.int j) H Q = Q (.int (i + j)) H := rfl
theorem mod_int {i j : Int} (h : 0 < j) {H : AH} {Q : V → AH → Prop} : wMod (.int i) (.int j) H Q = Q (.int (i.fmod j)) H := by
  dsimp only [wMod]; exact propext ⟨fun x => x.2, fun x => ⟨by lia, x⟩⟩
theorem div_int {i j : Int} (h : 0 < j) (h' : j < 1000) {H : AH} {Q : V → AH → Prop} : wDiv (.int i) (.int j) H Q = Q (.int (i.fdiv j)) H := by
  dsimp only [wDiv]; exact propext ⟨fun x => x.2, fun x => ⟨⟨by lia, by lia⟩, x⟩⟩
theorem fmod_lt' {i j : Int} (h : 0 < j) : 0 ≤ i.fmod j ∧ i.fmod j < j := ⟨Int.fmod_nonneg_of_pos _ h, Int.fmod_lt_of_pos _ h⟩
noncomputable def digT : Ls → Wp Fl := (zB3 (zG3 (wOrB (zB4 (zC3 (zB1 4) (zA5 (V.int 0)) wEq)) (wOrB (zB4 (zC3 (zB1 4) (wOne (zA5 (V.int 1)) wNeg) wEq)) (wOrB (zB4 (zC3 (zC3 (zB1 0) (zA5 (V.int 2)) zD5) (zA5 (V.int 30)) wEq)) (wTrue false)))) (zB3 (wAugI (zB1 0) (zA5 (V.int 1)) (zA5 (V.int 1))) (zB3 (wAsgI (zA5 (V.int 0)) (zB1 0) (zA5 (V.int 2))) zB6)) (zB3 (wAsgI (zB1 4) (zC3 (zB1 0) (zA5 (V.int 0)) zD5) (zC3 (zB1 0) (zA5 (V.int 1)) zD5)) zB6)) (zB3 (wRet (zB1 3)) zB6))
theorem wb422_dig {l : Ls} {H : AH} {Q : Fl → AH → Prop} : wb422 l H Q = (zB3 (zG3 (zB4 (zC3 (zC3 (zB1 0) (zA5 (V.int 1)) zD5) (zD3 wLen (zA4 (zC3 (zB1 0) (zA5 (V.int 0)) zD5) zB5)) (wInt fun i j => V.bool (decide (j ≤ i))))) (zB3 (wRet (zA5 (V.int 0))) zB6) zB6) (zB3 (zG7 (zC3 (zC3 (zB1 0) (zA5 (V.int 0)) zD5) (zC3 (zB1 0) (zA5 (V.int 1)) zD5) zD5) 2) (zB3 (zG7 (zC3 (zB1 2) (zB1 1) wMod) 3) (zB3 (zG7 (zC3 (zB1 2) (zB1 1) wDiv) 4) (zB3 (wAugI (zB1 0) (zA5 (V.int 2)) (zA5 (V.int 1))) digT))))) l H Q := rfl
theorem digit_tail {H : AH} (wf : WF H) {ta ca : Addr} {cells : List Int} {i k lim cell f rest : Int} (T : TapeR H ta ca cells i k) (hi : i < cells.length) {K : Fl → AH → Prop}
    (q : ∀ H', Tape H' ta ca → (∀ b, b ≠ ta → b ≠ ca → H' b = H b) → WF H' → K (.ret (.int f)) H') :
    zB3 (zG3 (wOrB (zB4 (zC3 (zB1 4) (zA5 (V.int 0)) wEq)) (wOrB (zB4 (zC3 (zB1 4) (wOne (zA5 (V.int 1)) wNeg) wEq)) (wOrB (zB4 (zC3 (zC3 (zB1 0) (zA5 (V.int 2)) zD5) (zA5 (V.int 30)) wEq)) (wTrue false)))) (zB3 (wAugI (zB1 0) (zA5 (V.int 1)) (zA5 (V.int 1))) (zB3 (wAsgI (zA5 (V.int 0)) (zB1 0) (zA5 (V.int 2))) zB6)) (zB3 (wAsgI (zB1 4) (zC3 (zB1 0) (zA5 (V.int 0)) zD5) (zC3 (zB1 0) (zA5 (V.int 1)) zD5)) zB6)) (zB3 (wRet (zB1 3)) zB6)
      [some (.ref ta), some (.int lim), some (.int cell), some (.int f), some (.int rest)] H K := by
  have wfI : ∀ {H : AH} {a : Addr} {xs ys : List V}, WF H → H a = some (.list xs) → WF (H.set a (.list ys)) := fun wf h => wf.upd h
  have yes : zB3 (wAugI (zB1 0) (zA5 (V.int 1)) (zA5 (V.int 1))) (zB3 (wAsgI (zA5 (V.int 0)) (zB1 0) (zA5 (V.int 2))) (zB3 (wRet (zB1 3)) zB6)) [some (.ref ta), some (.int lim), some (.int cell), some (.int f), some (.int rest)] H K := by
    simp! only [↓sub3_1 T.t, ↓add1_int, ↓put3_1 T.t]
    have t1 : (H.set ta (.list [.ref ca, .int (i + 1), .int k])) ta = some (.list [.ref ca, .int (i + 1), .int k]) := AH.set_self ..
    rw [put3_2 t1, AH.set_set]
    refine q _ ⟨cells, i + 1, 0, AH.set_self .., by rw [AH.set_ne _ _ T.ne.symm]; exact T.c, T.ne, by have := T.i0; lia, by lia, T.few⟩ (fun b h1 h2 => AH.set_ne _ _ h1) (wfI wf T.t)
  have no : zB3 (wAsgI (zB1 4) (zC3 (zB1 0) (zA5 (V.int 0)) zD5) (zC3 (zB1 0) (zA5 (V.int 1)) zD5)) (zB3 (wRet (zB1 3)) zB6) [some (.ref ta), some (.int lim), some (.int cell), some (.int f), some (.int rest)] H K := by
    simp! only [↓sub3_0 T.t, ↓sub3_1 T.t]
    have i0 := T.i0
    have hf := T.few
    have : wPutI (.ref ca) (.int i) (.int rest) H (fun _ H4 => K (.ret (.int f)) H4) := by
      dsimp only [wPutI]
      simp only [T.c]
      refine ⟨⟨i0, by lia, by simp; lia⟩, ?_⟩
      refine q _ ⟨cells.set i.toNat rest, i, k, by rw [AH.set_ne _ _ T.ne]; exact T.t, by simp only [AH.set_self, List.map_set], T.ne, i0, by simp; lia, by simpa using hf⟩ (fun b h1 h2 => AH.set_ne _ _ h2) (wfI wf T.c)
    exact this
  by_cases h1 : rest = 0
  · simp! only [↓eq_t h1]
    exact yes
  · by_cases h2 : rest = -1
    · simp! only [↓eq_f h1, ↓neg_int, ↓eq_t h2]
      exact yes
    · by_cases h3 : k = 30
      · simp! only [↓eq_f h1, ↓neg_int, ↓eq_f h2, ↓sub3_2 T.t, ↓eq_t h3]
        exact yes
      · simp! only [↓eq_f h1, ↓neg_int, ↓eq_f h2, ↓sub3_2 T.t, ↓eq_f h3]
        exact no
section
variable {c : Cx} (Fn : Fns c.K)
include Fn
theorem rf422 : RF c 1 422 sp422 := by
  have hnd : ((["tape", "limit"] : List Str) ++ (["cell", "figure", "rest"] : List Str)).Nodup := by decide
  refine rf_of (ps := (["tape", "limit"] : List Str)) (rest := (["cell", "figure", "rest"] : List Str)) Fn.f422 (zA1 (zE5 (zC4 (zC2 (zA3 0) zB2 zC1) (zH2 _ rb_len (zA2 (zC2 (zA3 0) zB2 zC1) zA7)) rv_ge) (zA1 (zD4 zB2) zA6) zA6) (zA1 (zD6 2 (zC2 (zC2 (zA3 0) zB2 zC1) (zC2 (zA3 0) zB2 zC1) zC1)) (zA1 (zD6 3 (re_bin (zA3 2) (zA3 1) rv_mod)) (zA1 (zD6 4 (re_bin (zA3 2) (zA3 1) rv_div)) (zA1 (rs_augI (zA3 0) zB2 zB2) (zA1 (zE5 (zH4 (zH7 (zC4 (zA3 4) zB2 zE4) (zH7 (zC4 (zA3 4) (re_un zB2 rv_neg) zE4) (zH7 (zC4 (zC2 (zA3 0) zB2 zC1) zB2 zE4) rts_nilO)))) (zA1 (rs_augI (zA3 0) zB2 zB2) (zA1 (rs_asgI zB2 (zA3 0) zB2) zA6)) (zA1 (rs_asgI (zA3 4) (zC2 (zA3 0) zB2 zC1) (zC2 (zA3 0) zB2 zC1)) zA6)) (zA1 (zD4 (zA3 3)) zA6))))))) ?_ (fun pm cd => len2 (fun _ _ => by rfl))
  rintro xs H Q wf ⟨ta, ca, lim, rfl, ⟨cells, i, k, T⟩, hl, hl', q⟩
  refine ⟨rfl, ?_⟩
  show wBody wb422 _ H _
  have few := T.few
  have i0 := T.i0
  by_cases hi : (((cells.map V.int).length : Nat) : Int) ≤ i
  · simp! only [↓wb422_ap, ↓sub3_1 T.t, ↓sub3_0 T.t, ↓len_list T.c (show (cells.map V.int).length ≤ 1000000 by simp; lia), ↓ge_t hi]
    exact zB7 wf (q 0 H (by lia) hl ⟨_, _, _, T⟩ (fun _ _ _ => rfl) wf)
  · have hi' : i < cells.length := by simp at hi; lia
    obtain ⟨n, rfl⟩ : ∃ n : Nat, i = n := ⟨i.toNat, by lia⟩
    obtain ⟨cell, hcell⟩ : ∃ cell, cells[n]? = some cell := ⟨cells[n]'(by lia), by simp⟩
    have hc' : (cells.map V.int)[n]? = some (.int cell) := by simp only [List.getElem?_map, hcell]; rfl
    simp! only [↓wb422_dig, ↓sub3_1 T.t, ↓sub3_0 T.t, ↓len_list T.c (show (cells.map V.int).length ≤ 1000000 by simp; lia), ↓ge_f hi, ↓sub_list T.c hc' (show n < 1000000 by lia), ↓mod_int hl, ↓div_int hl hl', ↓sub3_2 T.t, ↓add1_int, ↓put3_2 T.t]
    obtain ⟨g1, g2⟩ := fmod_lt' (i := cell) hl
    have T' : TapeR (H.set ta (.list [.ref ca, .int n, .int (k + 1)])) ta ca cells n (k + 1) := ⟨AH.set_self .., by rw [AH.set_ne _ _ T.ne.symm]; exact T.c, T.ne, T.i0, T.i1, T.few⟩
    refine digit_tail (lim := lim) (cell := cell) (rest := cell.fdiv lim) (f := cell.fmod lim) (wf.upd T.t) T' hi' fun H' h1 h2 h3 => ?_
    exact zB7 h3 (q _ H' g1 g2 h1 (fun b b1 b2 => by rw [h2 b b1 b2, AH.set_ne _ _ b1]) h3)
end
end
section
inductive zC7 where
  | gval (m n : Int) | gvy (n : Int) | gvt (o n : Int) | glist (n : Int) | uv (o : Int) | void (o : Int)
  | pv (u o : Int) | gv (o u : Int) | pvar (o s : Int) | plist (o : Int) | slv (u : Int) | mark (o : Int) | pvy (o : Int)
  | pva (u s : Int) | puv (s : Int) | pstr (s : Int) | sv (u : Int) | gvyt (u : Int) | cut (u : Int) | blt | call | exe
noncomputable def zC7.row : zC7 → Row
  | .gval m n => ⟨"get_value", [.op (.t m), .op (.a n)]⟩
  | .gvy n => ⟨"get_variable", [.op (.y 1), .op (.a n)]⟩
  | .gvt o n => ⟨"get_variable", [.op (.t o), .op (.a n)]⟩
  | .glist n => ⟨"get_list", [.op (.a n)]⟩
  | .uv o => ⟨"unify_variable", [.op (.t o)]⟩
  | .void o => ⟨"put_void", [.op (.t o)]⟩
  | .pv u o => ⟨"put_value", [.op (.t u), .op (.t o)]⟩
  | .gv o u => ⟨"get_variable", [.op (.t o), .op (.t u)]⟩
  | .pvar o s => ⟨"put_variable", [.op (.t o), .op (.a s)]⟩
  | .plist o => ⟨"put_list", [.op (.t o)]⟩
  | .slv u => ⟨"set_local_value", [.op (.t u)]⟩
  | .mark o => ⟨"mark", [.op (.t o)]⟩
  | .pvy o => ⟨"put_value", [.op (.y 1), .op (.t o)]⟩
  | .pva u s => ⟨"put_value", [.op (.t u), .op (.a s)]⟩
  | .puv s => ⟨"put_unsafe_value", [.op (.y 2), .op (.a s)]⟩
  | .pstr s => ⟨"put_structure", [.num 8, .op (.a s)]⟩
  | .sv u => ⟨"set_value", [.op (.t u)]⟩
  | .gvyt u => ⟨"get_variable", [.op (.y 1), .op (.t u)]⟩
  | .cut u => ⟨"cut_to", [.op (.t u)]⟩
  | .blt => ⟨"builtin", [.num 3]⟩
  | .call => ⟨"call", [.num 9, .num 1]⟩
  | .exe => ⟨"execute", [.num 9]⟩
noncomputable def zC7.rol : zC7 → List (Int × Op)
  | .gval m n => [(1, .t m), (1, .a n)]
  | .gvy n => [(1, .a n), (2, .y 1)]
  | .gvt o n => [(1, .a n), (2, .t o)]
  | .glist n => [(1, .a n)]
  | .uv o => [(2, .t o)]
  | .void o => [(2, .t o)]
  | .pv u o => [(1, .t u), (2, .t o)]
  | .gv o u => [(1, .t u), (2, .t o)]
  | .pvar o s => [(2, .t o), (2, .a s)]
  | .plist o => [(2, .t o)]
  | .slv u => [(3, .t u)]
  | .mark o => [(2, .t o)]
  | .pvy o => [(1, .y 1), (2, .t o)]
  | .pva u s => [(1, .t u), (2, .a s)]
  | .puv s => [(1, .y 2), (2, .a s)]
  | .pstr s => [(2, .a s)]
  | .sv u => [(1, .t u)]
  | .gvyt u => [(1, .t u), (2, .y 1)]
  | .cut u => [(1, .t u)]
  | .blt => []
  | .call => []
  | .exe => []
theorem zC7.roles_eq (i : zC7) : roles i.row = i.rol := by cases i <;> kernel_rfl
noncomputable def endsN (s : Str) : Bool := decide (s = "call" ∨ s = "execute" ∨ s = "builtin")
noncomputable def callN (s : Str) : Bool := decide (s = "call" ∨ s = "execute")
theorem zC7.nmok (i : zC7) : PyData.strOk i.row.nm = true := by cases i <;> kernel_rfl
noncomputable def isOpP : Pt → Bool
  | .op _ => true
  | .num _ => false
noncomputable def isOpt (o : Option Pt) : Bool := o.elim false isOpP
theorem isOpt_inv {o : Option Pt} (h : isOpt o = true) : ∃ q, o = some (.op q) := by
  cases o with
  | none => exact noB h
  | some p =>
    cases p with
    | op q => exact ⟨q, rfl⟩
    | num _ => exact noB h
theorem zC7.opsB (i : zC7) : ((rspec i.row.nm).all fun p => isOpt i.row.ps[p.2]?) = true := by cases i <;> kernel_rfl
theorem zC7.hasB (i : zC7) : ((List.range i.row.ps.length).all fun k => !isOpt i.row.ps[k]? || (rspec i.row.nm).any fun p => decide (p.2 = k)) = true := by cases i <;> kernel_rfl
theorem zC7.ok (i : zC7) : i.row.ok :=
  ⟨i.nmok, fun p hp => isOpt_inv (List.all_eq_true.mp i.opsB p hp), by cases i <;> exact Nat.le_of_ble_eq_true rfl⟩
theorem zC7.has (i : zC7) (n : Int) (h : Pt.op (.t n) ∈ i.row.ps) : ∃ ro, (ro, Op.t n) ∈ roles i.row := by
  refine zC5 fun _ hG => ?_
  obtain ⟨k, hk⟩ := List.getElem?_of_mem h
  have q := List.all_eq_true.mp i.hasB k (List.mem_range.mpr (List.getElem?_eq_some_iff.mp hk).1)
  rw [hk] at q
  obtain ⟨p, hp, e⟩ := List.any_eq_true.mp (show ((rspec i.row.nm).any fun p => decide (p.2 = k)) = true from q)
  refine hG ⟨p.1, List.mem_map.mpr ⟨p, hp, ?_⟩⟩
  rw [of_decide_eq_true e]; simp [opAt, hk]
noncomputable def zC7.ends : zC7 → Bool
  | .blt => true
  | .call => true
  | .exe => true
  | _ => false
noncomputable def zC7.calls : zC7 → Bool
  | .call => true
  | .exe => true
  | _ => false
theorem zC7.ends_eq (i : zC7) : Mine.ends i.row = i.ends := by cases i <;> kernel_rfl
theorem zC7.callN_eq (i : zC7) : callN i.row.nm = i.calls := by cases i <;> kernel_rfl
theorem zC7.calls_eq (i : zC7) : isCall i.row ↔ i.calls = true := by
  rw [← zC7.callN_eq]; simp [callN, isCall]
structure G where
  b : Int
  fresh : Int
  spot : Int
  gets : Bool
inductive OpS (k : Nat) (g : G) : Int × Int → Int × Op → Int × Int → Prop where
  | y {fs ro n} : OpS k g fs (ro, .y n) fs
  | rt {fs ro n} : ro ≠ 2 → g.b ≤ n → n < g.fresh → OpS k g fs (ro, .t n) fs
  | ra {fs ro n} : ro ≠ 2 → g.gets = true → 1 ≤ n → n ≤ (k : Int) → OpS k g fs (ro, .a n) fs
  | wt {f s} : OpS k g (f, s) (2, .t f) (f + 1, s)
  | wa {f s} : g.gets = false → 1 ≤ s → s ≤ 6 → OpS k g (f, s) (2, .a s) (f, s + 1)
noncomputable def OpsS (k : Nat) (g : G) : List (Int × Op) → Int × Int → Int × Int → Prop
  | [], fs, fs' => fs' = fs
  | p :: ps, fs, fs' => ∃ fs1, OpS k g fs p fs1 ∧ OpsS k g ps fs1 fs'
noncomputable def G.next (g : G) (i : zC7) (f s : Int) : G := if i.calls then ⟨f, f, 1, false⟩ else if i.ends then ⟨g.b, f, 1, false⟩ else ⟨g.b, f, s, g.gets⟩
noncomputable def ItS (k : Nat) (g : G) (i : zC7) (g' : G) : Prop := (i.ends = true → g.gets = false) ∧ ∃ f s, OpsS k g i.rol (g.fresh, g.spot) (f, s) ∧ g' = g.next i f s
noncomputable def ItsS (k : Nat) : List zC7 → G → G → Prop
  | [], g, g' => g' = g
  | i :: is, g, g' => ∃ g1, ItS k g i g1 ∧ ItsS k is g1 g'
theorem ItsS.append {k : Nat} : ∀ {is js : List zC7} {g g1 g2 : G}, ItsS k is g g1 → ItsS k js g1 g2 → ItsS k (is ++ js) g g2 := by
  intro zz
  induction zz with
  | nil =>
    intro _ _ _ _ h h'
    rw [show _ = _ from h] at h'; exact h'
  | cons _ _ ih =>
    rintro _ _ _ _ ⟨g1, a, b⟩ h'
    exact ⟨g1, a, ih b h'⟩
theorem ItsS.one {k : Nat} {i : zC7} {g g' : G} (h : ItS k g i g') : ItsS k [i] g g' := ⟨g', h, rfl⟩
noncomputable def rowsV (is : List zC7) : List V := is.map fun i => i.row.v
theorem rowsV_eq (is : List zC7) : rowsV is = (is.map zC7.row).map Row.v := by simp [rowsV]
noncomputable def mets (b : Int) (m : Nat) : List V := (List.range m).map fun i : Nat => (Op.t (b + i)).v
theorem mets_len (b : Int) (m : Nat) : (mets b m).length = m := by simp [mets]
theorem mets_get (b : Int) (m i : Nat) (h : i < m) : (mets b m)[i]? = some (Op.t (b + i)).v := by
  simp [mets, h]
theorem mets_succ (b : Int) (m : Nat) : mets b (m + 1) = mets b m ++ [(Op.t (b + m)).v] := by
  simp [mets, List.range_succ]
noncomputable def wayItems (w o u s : Int) : List zC7 := if w = 0 then [.pv u o] else if w = 1 then [.gv o u] else if w = 2 then [.pvar o s] else if w = 3 then [.plist o, .slv u] else if w = 4 then [.mark o] else if w = 5 then [.pvy o]
  else if w = 6 then [.pva u s] else if w = 7 then [.puv s] else if w = 8 then [.pstr s, .sv u] else if w = 9 then [.gvyt u] else if w = 10 then [.cut u] else [.blt]
inductive Sp436 (xs : List V) (H : AH) (Q : V → AH → Prop) : Prop
  | of : ∀ (w o u s : Int), (xs = [.int w, (Op.t o).v, (Op.t u).v, (Op.a s).v]) → (∀ n, H n = none → Q (.ref n) (H.set n (.list (rowsV (wayItems w o u s))))) → Sp436 xs H Q
noncomputable abbrev sp436 : List V → Wp V := Sp436
noncomputable def isCopyR (r : Row) : Bool := decide (r.nm = "get_variable" ∨ r.nm = "put_value") && decide ((opAt r.ps 0).tag = "x") && decide ((opAt r.ps 1).tag = "x")
inductive Sp450 (xs : List V) (H : AH) (Q : V → AH → Prop) : Prop
  | of : ∀ r, (xs = [Row.v r]) → (Row.ok r) → (Q (.bool (isCopyR r)) H) → Sp450 xs H Q
noncomputable abbrev sp450 : List V → Wp V := Sp450
noncomputable def wb436 : Ls → Wp Fl := (zB3 (zG3 (zB4 (zC3 (zB1 0) (zA5 (V.int 0)) wEq)) (zB3 (wRet (zF5 (zA4 (wTup (zA4 (zA5 (V.str (Str.ofString "put_value"))) (zA4 (zB1 2) (zA4 (zB1 1) zB5)))) zB5))) zB6) zB6) (zB3 (zG3 (zB4 (zC3 (zB1 0) (zA5 (V.int 1)) wEq)) (zB3 (wRet (zF5 (zA4 (wTup (zA4 (zA5 (V.str (Str.ofString "get_variable"))) (zA4 (zB1 1) (zA4 (zB1 2) zB5)))) zB5))) zB6) zB6) (zB3 (zG3 (zB4 (zC3 (zB1 0) (zA5 (V.int 2)) wEq)) (zB3 (wRet (zF5 (zA4 (wTup (zA4 (zA5 (V.str (Str.ofString "put_variable"))) (zA4 (zB1 1) (zA4 (zB1 3) zB5)))) zB5))) zB6) zB6) (zB3 (zG3 (zB4 (zC3 (zB1 0) (zA5 (V.int 3)) wEq)) (zB3 (wRet (zF5 (zA4 (wTup (zA4 (zA5 (V.str (Str.ofString "put_list"))) (zA4 (zB1 1) zB5))) (zA4 (wTup (zA4 (zA5 (V.str (Str.ofString "set_local_value"))) (zA4 (zB1 2) zB5))) zB5)))) zB6) zB6) (zB3 (zG3 (zB4 (zC3 (zB1 0) (zA5 (V.int 4)) wEq)) (zB3 (wRet (zF5 (zA4 (wTup (zA4 (zA5 (V.str (Str.ofString "mark"))) (zA4 (zB1 1) zB5))) zB5))) zB6) zB6) (zB3 (zG3 (zB4 (zC3 (zB1 0) (zA5 (V.int 5)) wEq)) (zB3 (wRet (zF5 (zA4 (wTup (zA4 (zA5 (V.str (Str.ofString "put_value"))) (zA4 (wTup (zA4 (zA5 (V.str (Str.ofString "y"))) (zA4 (zA5 (V.int 1)) zB5))) (zA4 (zB1 1) zB5)))) zB5))) zB6) zB6) (zB3 (zG3 (zB4 (zC3 (zB1 0) (zA5 (V.int 6)) wEq)) (zB3 (wRet (zF5 (zA4 (wTup (zA4 (zA5 (V.str (Str.ofString "put_value"))) (zA4 (zB1 2) (zA4 (zB1 3) zB5)))) zB5))) zB6) zB6) (zB3 (zG3 (zB4 (zC3 (zB1 0) (zA5 (V.int 7)) wEq)) (zB3 (wRet (zF5 (zA4 (wTup (zA4 (zA5 (V.str (Str.ofString "put_unsafe_value"))) (zA4 (wTup (zA4 (zA5 (V.str (Str.ofString "y"))) (zA4 (zA5 (V.int 2)) zB5))) (zA4 (zB1 3) zB5)))) zB5))) zB6) zB6) (zB3 (zG3 (zB4 (zC3 (zB1 0) (zA5 (V.int 8)) wEq)) (zB3 (wRet (zF5 (zA4 (wTup (zA4 (zA5 (V.str (Str.ofString "put_structure"))) (zA4 (zA5 (V.int 8)) (zA4 (zB1 3) zB5)))) (zA4 (wTup (zA4 (zA5 (V.str (Str.ofString "set_value"))) (zA4 (zB1 2) zB5))) zB5)))) zB6) zB6) (zB3 (zG3 (zB4 (zC3 (zB1 0) (zA5 (V.int 9)) wEq)) (zB3 (wRet (zF5 (zA4 (wTup (zA4 (zA5 (V.str (Str.ofString "get_variable"))) (zA4 (wTup (zA4 (zA5 (V.str (Str.ofString "y"))) (zA4 (zA5 (V.int 1)) zB5))) (zA4 (zB1 2) zB5)))) zB5))) zB6) zB6) (zB3 (zG3 (zB4 (zC3 (zB1 0) (zA5 (V.int 10)) wEq)) (zB3 (wRet (zF5 (zA4 (wTup (zA4 (zA5 (V.str (Str.ofString "cut_to"))) (zA4 (zB1 2) zB5))) zB5))) zB6) zB6) (zB3 (wRet (zF5 (zA4 (wTup (zA4 (zA5 (V.str (Str.ofString "builtin"))) (zA4 (zA5 (V.int 3)) zB5))) zB5))) zB6))))))))))))
theorem wb436_ap {l : Ls} {H : AH} {Q : Fl → AH → Prop} : wb436 l H Q = (zB3 (zG3 (zB4 (zC3 (zB1 0) (zA5 (V.int 0)) wEq)) (zB3 (wRet (zF5 (zA4 (wTup (zA4 (zA5 (V.str (Str.ofString "put_value"))) (zA4 (zB1 2) (zA4 (zB1 1) zB5)))) zB5))) zB6) zB6) (zB3 (zG3 (zB4 (zC3 (zB1 0) (zA5 (V.int 1)) wEq)) (zB3 (wRet (zF5 (zA4 (wTup (zA4 (zA5 (V.str (Str.ofString "get_variable"))) (zA4 (zB1 1) (zA4 (zB1 2) zB5)))) zB5))) zB6) zB6) (zB3 (zG3 (zB4 (zC3 (zB1 0) (zA5 (V.int 2)) wEq)) (zB3 (wRet (zF5 (zA4 (wTup (zA4 (zA5 (V.str (Str.ofString "put_variable"))) (zA4 (zB1 1) (zA4 (zB1 3) zB5)))) zB5))) zB6) zB6) (zB3 (zG3 (zB4 (zC3 (zB1 0) (zA5 (V.int 3)) wEq)) (zB3 (wRet (zF5 (zA4 (wTup (zA4 (zA5 (V.str (Str.ofString "put_list"))) (zA4 (zB1 1) zB5))) (zA4 (wTup (zA4 (zA5 (V.str (Str.ofString "set_local_value"))) (zA4 (zB1 2) zB5))) zB5)))) zB6) zB6) (zB3 (zG3 (zB4 (zC3 (zB1 0) (zA5 (V.int 4)) wEq)) (zB3 (wRet (zF5 (zA4 (wTup (zA4 (zA5 (V.str (Str.ofString "mark"))) (zA4 (zB1 1) zB5))) zB5))) zB6) zB6) (zB3 (zG3 (zB4 (zC3 (zB1 0) (zA5 (V.int 5)) wEq)) (zB3 (wRet (zF5 (zA4 (wTup (zA4 (zA5 (V.str (Str.ofString "put_value"))) (zA4 (wTup (zA4 (zA5 (V.str (Str.ofString "y"))) (zA4 (zA5 (V.int 1)) zB5))) (zA4 (zB1 1) zB5)))) zB5))) zB6) zB6) (zB3 (zG3 (zB4 (zC3 (zB1 0) (zA5 (V.int 6)) wEq)) (zB3 (wRet (zF5 (zA4 (wTup (zA4 (zA5 (V.str (Str.ofString "put_value"))) (zA4 (zB1 2) (zA4 (zB1 3) zB5)))) zB5))) zB6) zB6) (zB3 (zG3 (zB4 (zC3 (zB1 0) (zA5 (V.int 7)) wEq)) (zB3 (wRet (zF5 (zA4 (wTup (zA4 (zA5 (V.str (Str.ofString "put_unsafe_value"))) (zA4 (wTup (zA4 (zA5 (V.str (Str.ofString "y"))) (zA4 (zA5 (V.int 2)) zB5))) (zA4 (zB1 3) zB5)))) zB5))) zB6) zB6) (zB3 (zG3 (zB4 (zC3 (zB1 0) (zA5 (V.int 8)) wEq)) (zB3 (wRet (zF5 (zA4 (wTup (zA4 (zA5 (V.str (Str.ofString "put_structure"))) (zA4 (zA5 (V.int 8)) (zA4 (zB1 3) zB5)))) (zA4 (wTup (zA4 (zA5 (V.str (Str.ofString "set_value"))) (zA4 (zB1 2) zB5))) zB5)))) zB6) zB6) (zB3 (zG3 (zB4 (zC3 (zB1 0) (zA5 (V.int 9)) wEq)) (zB3 (wRet (zF5 (zA4 (wTup (zA4 (zA5 (V.str (Str.ofString "get_variable"))) (zA4 (wTup (zA4 (zA5 (V.str (Str.ofString "y"))) (zA4 (zA5 (V.int 1)) zB5))) (zA4 (zB1 2) zB5)))) zB5))) zB6) zB6) (zB3 (zG3 (zB4 (zC3 (zB1 0) (zA5 (V.int 10)) wEq)) (zB3 (wRet (zF5 (zA4 (wTup (zA4 (zA5 (V.str (Str.ofString "cut_to"))) (zA4 (zB1 2) zB5))) zB5))) zB6) zB6) (zB3 (wRet (zF5 (zA4 (wTup (zA4 (zA5 (V.str (Str.ofString "builtin"))) (zA4 (zA5 (V.int 3)) zB5))) zB5))) zB6)))))))))))) l H Q := rfl
noncomputable def wb450 : Ls → Wp Fl := (zB3 (wRet (wAndV (zC3 (zC3 (zB1 0) (zA5 (V.int 0)) zD5) (zF5 (zA4 (zA5 (V.str (Str.ofString "get_variable"))) (zA4 (zA5 (V.str (Str.ofString "put_value"))) zB5))) (wInB id)) (wAndV (zC3 (zC3 (zC3 (zB1 0) (zA5 (V.int 1)) zD5) (zA5 (V.int 0)) zD5) (zA5 (V.str (Str.ofString "x"))) wEq) (zC3 (zC3 (zC3 (zB1 0) (zA5 (V.int 2)) zD5) (zA5 (V.int 0)) zD5) (zA5 (V.str (Str.ofString "x"))) wEq)))) zB6)
theorem wb450_ap {l : Ls} {H : AH} {Q : Fl → AH → Prop} : wb450 l H Q = (zB3 (wRet (wAndV (zC3 (zC3 (zB1 0) (zA5 (V.int 0)) zD5) (zF5 (zA4 (zA5 (V.str (Str.ofString "get_variable"))) (zA4 (zA5 (V.str (Str.ofString "put_value"))) zB5))) (wInB id)) (wAndV (zC3 (zC3 (zC3 (zB1 0) (zA5 (V.int 1)) zD5) (zA5 (V.int 0)) zD5) (zA5 (V.str (Str.ofString "x"))) wEq) (zC3 (zC3 (zC3 (zB1 0) (zA5 (V.int 2)) zD5) (zA5 (V.int 0)) zD5) (zA5 (V.str (Str.ofString "x"))) wEq)))) zB6) l H Q := rfl
theorem eqv_strs {s : Str} (hs : PyData.strOk s = true) {H : AH} {a : Addr} {x y : Str} (h : H a = some (.list [.str x, .str y])) (hx : PyData.strOk x = true) (hy : PyData.strOk y = true) {Q : V → AH → Prop} :
    wInB id (.str s) (.ref a) H Q = Q (.bool (decide (s = x ∨ s = y))) H := by
  have e : wInB id (.str s) (.ref a) H Q = ((okV 5 (.str s) = true ∧ okVs 5 [.str x, .str y] = true) ∧ Q (.bool (id ((toPs [.str x, .str y]).any fun z => PyData.eqv z (toP (.str s))))) H) := by
    show (match H a with | some (.list xs) => (okV 5 (.str s) = true ∧ okVs 5 xs = true) ∧ Q (.bool (id ((toPs xs).any fun z => PyData.eqv z (toP (.str s))))) H | _ => False) = _
    simp only [h]
  have e1 : okV 5 (.str s) = true := by simp only [okS, hs]
  have e2 : okVs 5 [.str x, .str y] = true := by simp [okN, okC, okS, hx, hy]
  have e3 : id ((toPs [.str x, .str y]).any fun z => PyData.eqv z (toP (.str s))) = decide (s = x ∨ s = y) := by
    simp only [tpN, tpC, tpS, List.any_cons, List.any_nil, eqv_str, id, Bool.or_false]
    by_cases h1 : x = s
    · simp [h1]
    · by_cases h2 : y = s
      · simp [h1, h2]
      · have h1' : ¬ s = x := fun z => h1 z.symm
        have h2' : ¬ s = y := fun z => h2 z.symm
        simp [h1, h2, h1', h2']
  simp only [e, e1, e2, e3]; simp
section
variable {c : Cx} (Fn : Fns c.K)
include Fn
theorem rf436 : RF c 1 436 sp436 := by
  have hnd : ((["way", "own", "use", "spot"] : List Str) ++ ([] : List Str)).Nodup := by decide
  refine rf_of (ps := (["way", "own", "use", "spot"] : List Str)) (rest := ([] : List Str)) Fn.f436 (zA1 (zE5 (zC4 (zA3 0) zB2 zE4) (zA1 (zD4 (zE2 (zA2 (zE7 (zA2 zC6 (zA2 (zA3 2) (zA2 (zA3 1) zA7)))) zA7))) zA6) zA6) (zA1 (zE5 (zC4 (zA3 0) zB2 zE4) (zA1 (zD4 (zE2 (zA2 (zE7 (zA2 zC6 (zA2 (zA3 1) (zA2 (zA3 2) zA7)))) zA7))) zA6) zA6) (zA1 (zE5 (zC4 (zA3 0) zB2 zE4) (zA1 (zD4 (zE2 (zA2 (zE7 (zA2 zC6 (zA2 (zA3 1) (zA2 (zA3 3) zA7)))) zA7))) zA6) zA6) (zA1 (zE5 (zC4 (zA3 0) zB2 zE4) (zA1 (zD4 (zE2 (zA2 (zE7 (zA2 zC6 (zA2 (zA3 1) zA7))) (zA2 (zE7 (zA2 zC6 (zA2 (zA3 2) zA7))) zA7)))) zA6) zA6) (zA1 (zE5 (zC4 (zA3 0) zB2 zE4) (zA1 (zD4 (zE2 (zA2 (zE7 (zA2 zC6 (zA2 (zA3 1) zA7))) zA7))) zA6) zA6) (zA1 (zE5 (zC4 (zA3 0) zB2 zE4) (zA1 (zD4 (zE2 (zA2 (zE7 (zA2 zC6 (zA2 (zE7 (zA2 zC6 (zA2 zB2 zA7))) (zA2 (zA3 1) zA7)))) zA7))) zA6) zA6) (zA1 (zE5 (zC4 (zA3 0) zB2 zE4) (zA1 (zD4 (zE2 (zA2 (zE7 (zA2 zC6 (zA2 (zA3 2) (zA2 (zA3 3) zA7)))) zA7))) zA6) zA6) (zA1 (zE5 (zC4 (zA3 0) zB2 zE4) (zA1 (zD4 (zE2 (zA2 (zE7 (zA2 zC6 (zA2 (zE7 (zA2 zC6 (zA2 zB2 zA7))) (zA2 (zA3 3) zA7)))) zA7))) zA6) zA6) (zA1 (zE5 (zC4 (zA3 0) zB2 zE4) (zA1 (zD4 (zE2 (zA2 (zE7 (zA2 zC6 (zA2 zB2 (zA2 (zA3 3) zA7)))) (zA2 (zE7 (zA2 zC6 (zA2 (zA3 2) zA7))) zA7)))) zA6) zA6) (zA1 (zE5 (zC4 (zA3 0) zB2 zE4) (zA1 (zD4 (zE2 (zA2 (zE7 (zA2 zC6 (zA2 (zE7 (zA2 zC6 (zA2 zB2 zA7))) (zA2 (zA3 2) zA7)))) zA7))) zA6) zA6) (zA1 (zE5 (zC4 (zA3 0) zB2 zE4) (zA1 (zD4 (zE2 (zA2 (zE7 (zA2 zC6 (zA2 (zA3 2) zA7))) zA7))) zA6) zA6) (zA1 (zD4 (zE2 (zA2 (zE7 (zA2 zC6 (zA2 zB2 zA7))) zA7))) zA6)))))))))))) ?_ (fun pm cd => len4 (fun _ _ _ _ => by rfl))
  rintro xs H Q wf ⟨w, o, u, s, rfl, q⟩
  refine ⟨rfl, ?_⟩
  show wBody wb436 _ H _
  unfold wayItems at q
  have fin : ∀ (is : List zC7) n, H n = none → (∀ n, H n = none → Q (.ref n) (H.set n (.list (rowsV is)))) → ∃ H'', Sub H'' (H.set n (.list (rowsV is))) ∧ Q (.ref n) H'' := fun is n hn q => zB7 (wf.new hn) (q n hn)
  simp! only [↓wb436_ap]
  by_cases h : w = 0
  · rw [if_pos h] at q
    simp! only [↓eq_t h]
    exact ⟨by lia, by lia, fun n hn => fin _ n hn q⟩
  rw [if_neg h] at q
  simp! only [↓eq_f h]
  clear h
  by_cases h : w = 1
  · rw [if_pos h] at q
    simp! only [↓eq_t h]
    exact ⟨by lia, by lia, fun n hn => fin _ n hn q⟩
  rw [if_neg h] at q
  simp! only [↓eq_f h]
  clear h
  by_cases h : w = 2
  · rw [if_pos h] at q
    simp! only [↓eq_t h]
    exact ⟨by lia, by lia, fun n hn => fin _ n hn q⟩
  rw [if_neg h] at q
  simp! only [↓eq_f h]
  clear h
  by_cases h : w = 3
  · rw [if_pos h] at q
    simp! only [↓eq_t h]
    exact ⟨by lia, by lia, by lia, fun n hn => fin _ n hn q⟩
  rw [if_neg h] at q
  simp! only [↓eq_f h]
  clear h
  by_cases h : w = 4
  · rw [if_pos h] at q
    simp! only [↓eq_t h]
    exact ⟨by lia, by lia, fun n hn => fin _ n hn q⟩
  rw [if_neg h] at q
  simp! only [↓eq_f h]
  clear h
  by_cases h : w = 5
  · rw [if_pos h] at q
    simp! only [↓eq_t h]
    exact ⟨by lia, by lia, by lia, fun n hn => fin _ n hn q⟩
  rw [if_neg h] at q
  simp! only [↓eq_f h]
  clear h
  by_cases h : w = 6
  · rw [if_pos h] at q
    simp! only [↓eq_t h]
    exact ⟨by lia, by lia, fun n hn => fin _ n hn q⟩
  rw [if_neg h] at q
  simp! only [↓eq_f h]
  clear h
  by_cases h : w = 7
  · rw [if_pos h] at q
    simp! only [↓eq_t h]
    exact ⟨by lia, by lia, by lia, fun n hn => fin _ n hn q⟩
  rw [if_neg h] at q
  simp! only [↓eq_f h]
  clear h
  by_cases h : w = 8
  · rw [if_pos h] at q
    simp! only [↓eq_t h]
    exact ⟨by lia, by lia, by lia, fun n hn => fin _ n hn q⟩
  rw [if_neg h] at q
  simp! only [↓eq_f h]
  clear h
  by_cases h : w = 9
  · rw [if_pos h] at q
    simp! only [↓eq_t h]
    exact ⟨by lia, by lia, by lia, fun n hn => fin _ n hn q⟩
  rw [if_neg h] at q
  simp! only [↓eq_f h]
  clear h
  by_cases h : w = 10
  · rw [if_pos h] at q
    simp! only [↓eq_t h]
    exact ⟨by lia, by lia, fun n hn => fin _ n hn q⟩
  rw [if_neg h] at q
  simp! only [↓eq_f h]
  clear h
  exact ⟨by lia, by lia, fun n hn => fin _ n hn q⟩
theorem rf450 : RF c 1 450 sp450 := by
  have hnd : ((["row"] : List Str) ++ ([] : List Str)).Nodup := by decide
  refine rf_of (ps := (["row"] : List Str)) (rest := ([] : List Str)) Fn.f450 (zA1 (zD4 (re_bool' (reb_and (re_cmp (zC2 (zA3 0) zB2 zC1) (zE2 (zA2 zC6 (zA2 zC6 zA7))) rv_in) (reb_and (re_cmp (zC2 (zC2 (zA3 0) zB2 zC1) zB2 zC1) zC6 zE4) (reb_one (re_cmp (zC2 (zC2 (zA3 0) zB2 zC1) zB2 zC1) zC6 zE4)))))) zA6) ?_ (fun pm cd => len1 (fun _ => by rfl))
  rintro xs H Q wf ⟨r, rfl, ok, q⟩
  refine ⟨rfl, ?_⟩
  show wBody wb450 _ H _
  simp! only [↓wb450_ap, ↓wSub_row0]
  refine ⟨by lia, fun n hn => ?_⟩
  have hl : (H.set n (.list [.str "get_variable", .str "put_value"])) n = some (.list [.str "get_variable", .str "put_value"]) := AH.set_self ..
  have le : Le H (H.set n (.list [.str "get_variable", .str "put_value"])) := (Le.refl H).set hn
  show wInB id (.str r.nm) (.ref n) _ _
  rw [eqv_strs ok.nm hl n_gv n_pv]
  by_cases h : r.nm = "get_variable" ∨ r.nm = "put_value"
  · have ops : (∃ o, r.ps[0]? = some (.op o)) ∧ ∃ o, r.ps[1]? = some (.op o) := by
      rcases h with h | h
      · have hs := rs_gv
        rw [← h] at hs
        exact ⟨ok.ops (2, 0) (by rw [hs]; simp), ok.ops (1, 1) (by rw [hs]; simp)⟩
      · have hs := rs_pv
        rw [← h] at hs
        exact ⟨ok.ops (1, 0) (by rw [hs]; simp), ok.ops (2, 1) (by rw [hs]; simp)⟩
    obtain ⟨⟨o1, e1⟩, o2, e2⟩ := ops
    have w1 : ∀ {H Q}, zD5 r.v (.int 1) H Q = Q o1.v H := fun {H Q} => zG4 (by simp [e1, Pt.v])
    have w2 : ∀ {H Q}, zD5 r.v (.int 2) H Q = Q o2.v H := fun {H Q} => wSub_row2 (by simp [e2, Pt.v])
    have a1 : opAt r.ps 0 = o1 := by simp [opAt, e1]
    have a2 : opAt r.ps 1 = o2 := by simp [opAt, e2]
    simp only [isCopyR, h, decide_true, Bool.true_and, a1, a2] at q
    by_cases t1 : o1.tag = "x"
    · simp only [t1, decide_true, Bool.true_and] at q
      simp! only [h, decide_true, ↓w1, ↓w2, ↓zJ2, ↓qs_t o1.tag_ok k_x t1, wEq_str o2.tag_ok k_x]
      exact ret_le le wf q
    · simp only [t1, decide_false, Bool.false_and] at q
      simp! only [h, decide_true, ↓w1, ↓w2, ↓zJ2, ↓qs_f o1.tag_ok k_x t1]
      exact ret_le le wf q
  · simp! only [h, decide_false]
    simp only [isCopyR, h, decide_false, Bool.false_and] at q
    exact ret_le le wf q
end
end
section
theorem okVs_mets (b : Int) : ∀ m, okVs 6 (mets b m) = true := by
  intro m
  have : ∀ ws : List Op, okVs 6 (ws.map Op.v) = true := ops_ok 5
  have e : mets b m = ((List.range m).map fun i : Nat => Op.t (b + i)).map Op.v := by simp [mets]
  rw [e]; exact this _
theorem eqv_nil (b : Int) (m : Nat) : PyData.eqv (.list (toPs (mets b m))) (.list (toPs [])) = decide (m = 0) := by
  cases m with
  | zero => simp [mets, tpN, tpC, PyData.eqv, PyData.eqvAll]
  | succ m =>
    have : mets b (m + 1) = (Op.t b).v :: (mets b (m + 1)).tail := by simp [mets, List.range_succ_eq_map]
    rw [this]
    simp [tpN, tpC, PyData.eqv, PyData.eqvAll]
theorem ne_nil {H : AH} {a n : Addr} {b : Int} {m : Nat} (h : H a = some (.list (mets b m))) (hn : H n = some (.list [])) {Q : V → AH → Prop} : wNe (.ref a) (.ref n) H Q = Q (.bool (!decide (m = 0))) H := by
  unfold wNe
  have e1 : asP H (.ref a) = some (.list (toPs (mets b m))) := (asL h).trans (if_pos (okVs_mets b m))
  have e2 : asP H (.ref n) = some (.list (toPs [])) := (asL hn).trans (if_pos rfl)
  rw [e1, e2]
  simp only [eqv_nil]
theorem eq_nil {H : AH} {a n : Addr} {b : Int} {m : Nat} (h : H a = some (.list (mets b m))) (hn : H n = some (.list [])) {Q : V → AH → Prop} : wEq (.ref a) (.ref n) H Q = Q (.bool (decide (m = 0))) H := by
  unfold wEq
  have e1 : asP H (.ref a) = some (.list (toPs (mets b m))) := (asL h).trans (if_pos (okVs_mets b m))
  have e2 : asP H (.ref n) = some (.list (toPs [])) := (asL hn).trans (if_pos rfl)
  rw [e1, e2]
  simp only [eqv_nil]
theorem ne_nil0 {H : AH} {a n : Addr} {b : Int} {m : Nat} (h : H a = some (.list (mets b m))) (hn : H n = some (.list [])) (m0 : m = 0) {Q : V → AH → Prop} : wNe (.ref a) (.ref n) H Q = Q (.bool false) H := by
  rw [ne_nil h hn]; simp [m0]
theorem ne_nil1 {H : AH} {a n : Addr} {b : Int} {m : Nat} (h : H a = some (.list (mets b m))) (hn : H n = some (.list [])) (m0 : m ≠ 0) {Q : V → AH → Prop} : wNe (.ref a) (.ref n) H Q = Q (.bool true) H := by
  rw [ne_nil h hn]; simp [m0]
theorem eq_nil0 {H : AH} {a n : Addr} {b : Int} {m : Nat} (h : H a = some (.list (mets b m))) (hn : H n = some (.list [])) (m0 : m = 0) {Q : V → AH → Prop} : wEq (.ref a) (.ref n) H Q = Q (.bool true) H := by
  rw [eq_nil h hn]; simp [m0]
theorem eq_nil1 {H : AH} {a n : Addr} {b : Int} {m : Nat} (h : H a = some (.list (mets b m))) (hn : H n = some (.list [])) (m0 : m ≠ 0) {Q : V → AH → Prop} : wEq (.ref a) (.ref n) H Q = Q (.bool false) H := by
  rw [eq_nil h hn]; simp [m0]
structure WS' (H0 H : AH) (ta ca lm n : Addr) (b : Int) (m : Nat) (is : List zC7) : Prop where
  tape : Tape H ta ca
  met : H lm = some (.list (mets b m))
  code : H n = some (.list (rowsV is))
  keep : ∀ x o, H0 x = some o → x ≠ ta → x ≠ ca → x ≠ lm → H x = some o
  wf : WF H
structure Far (H0 : AH) (ta ca lm n : Addr) : Prop where
  lt : lm ≠ ta
  lc : lm ≠ ca
  nn : H0 n = none
  nt : n ≠ ta
  nc : n ≠ ca
  nl : n ≠ lm
theorem Tape.keep {H H' : AH} {ta ca} (T : Tape H ta ca) (h1 : H' ta = H ta) (h2 : H' ca = H ca) : Tape H' ta ca := by
  obtain ⟨x, i, k, t⟩ := T
  exact ⟨x, i, k, h1.trans t.t, h2.trans t.c, t.ne, t.i0, t.i1, t.few⟩
section
variable {H0 H : AH} {ta ca lm n : Addr} {b : Int} {m : Nat} {is : List zC7}
theorem WS'.digit (W : WS' H0 H ta ca lm n b m is) (F : Far H0 ta ca lm n) {lim : Int} (h1 : 0 < lim) (h2 : lim < 1000) {Q : V → AH → Prop} (q : ∀ v H', 0 ≤ v → v < lim → WS' H0 H' ta ca lm n b m is → (∀ x, x ≠ ta → x ≠ ca → H' x = H x) → Q (.int v) H') : sp422 [.ref ta, .int lim] H Q :=
  ⟨ta, ca, lim, rfl, W.tape, h1, h2, fun v H' v0 v1 T k wf => q v H' v0 v1 ⟨T, (k _ F.lt F.lc).trans W.met, (k _ F.nt F.nc).trans W.code, fun x o e a1 a2 a3 => (k x a1 a2).trans (W.keep x o e a1 a2 a3), wf⟩ k⟩
theorem WS'.app (W : WS' H0 H ta ca lm n b m is) (F : Far H0 ta ca lm n) (js : List zC7) {xs : List V} (e : xs = rowsV is ++ rowsV js) : WS' H0 (H.set n (.list xs)) ta ca lm n b m (is ++ js) :=
  ⟨W.tape.keep (AH.set_ne _ _ F.nt.symm) (AH.set_ne _ _ F.nc.symm), by rw [AH.set_ne _ _ F.nl.symm]; exact W.met, by rw [AH.set_self, e]; simp [rowsV], fun x o ex a1 a2 a3 => by
    rw [AH.set_ne _ _ (AH.ne_of ex F.nn)]; exact W.keep x o ex a1 a2 a3, W.wf.upd W.code⟩
theorem WS'.grow (W : WS' H0 H ta ca lm n b m is) (F : Far H0 ta ca lm n) {xs : List V} (e : xs = mets b m ++ [(Op.t (b + m)).v]) : WS' H0 (H.set lm (.list xs)) ta ca lm n b (m + 1) is :=
  ⟨W.tape.keep (AH.set_ne _ _ F.lt.symm) (AH.set_ne _ _ F.lc.symm), by simp only [AH.set_self, e, mets_succ], by rw [AH.set_ne _ _ F.nl]; exact W.code, fun x o ex a1 a2 a3 => by
    rw [AH.set_ne _ _ a3]; exact W.keep x o ex a1 a2 a3, W.wf.upd W.met⟩
theorem WS'.ext (W : WS' H0 H ta ca lm n b m is) {H' : AH} (l : Le H H') (wf : WF H') : WS' H0 H' ta ca lm n b m is := by
  obtain ⟨x, i, k, t⟩ := W.tape
  exact ⟨⟨x, i, k, l _ _ t.t, l _ _ t.c, t.ne, t.i0, t.i1, t.few⟩, l _ _ W.met, l _ _ W.code, fun x o e a1 a2 a3 => l _ _ (W.keep x o e a1 a2 a3), wf⟩
theorem WS'.new (W : WS' H0 H ta ca lm n b m is) {z : Addr} (hz : H z = none) (xs : List V) : WS' H0 (H.set z (.list xs)) ta ca lm n b m is := W.ext ((Le.refl H).set hz) (W.wf.new hz)
end
theorem pick {H : AH} {lm : Addr} {b : Int} {m : Nat} (h : H lm = some (.list (mets b m))) (hm : 0 < m) (hb : m ≤ 1000) (v : Int) {Q : V → AH → Prop} (q : ∀ i : Nat, i < m → Q (Op.t (b + i)).v H) :
    wMod (.int v) (.int (m : Int)) H fun y H' => zD5 (.ref lm) y H' Q := by
  have hm' : (0 : Int) < m := by lia
  rw [mod_int hm']
  obtain ⟨g1, g2⟩ := fmod_lt' (i := v) hm'
  obtain ⟨i, hi⟩ : ∃ i : Nat, v.fmod m = i := ⟨(v.fmod m).toNat, by lia⟩
  rw [hi, sub_list h (mets_get b m i (by lia)) (by lia)]
  exact q i (by lia)
inductive Sp429 (xs : List V) (H : AH) (Q : V → AH → Prop) : Prop
  | of : ∀ (ta ca : Addr) (k : Nat) (lm : Addr), (xs = [.ref ta, .int k, .ref lm]) → (Tape H ta ca) → (H lm = some (.list [])) → (lm ≠ ta) → (lm ≠ ca) → (k ≤ 3) → (∀ H' n is m, WS' H H' ta ca lm n 0 m is → Far H ta ca lm n → ItsS k is ⟨0, 0, 1, true⟩ ⟨0, m, 1, true⟩ → m ≤ k → is.length ≤ 2 * k → Q (.ref n) H') → Sp429 xs H Q
noncomputable abbrev sp429 : List V → Wp V := Sp429
noncomputable def lb429_1 : Ls → Wp Fl := (zB3 (zG7 (zD3 sp422 (zA4 (zB1 0) (zA4 (zA5 (V.int 5)) zB5))) 5) (zB3 (zG3 (wAndB (zB4 (zC3 (zB1 5) (zA5 (V.int 4)) wEq)) (wAndB (zB4 (zC3 (zB1 2) (zF5 zB5) wNe)) (wTrue true))) (zB3 (zG1 (zD2 zE1 (zB1 3) zD1 (zA4 (wTup (zA4 (zA5 (V.str (Str.ofString "get_value"))) (zA4 (zC3 (zB1 2) (zC3 (zD3 sp422 (zA4 (zB1 0) (zA4 (zA5 (V.int 5)) zB5))) (zD3 wLen (zA4 (zB1 2) zB5)) wMod) zD5) (zA4 (wTup (zA4 (zA5 (V.str (Str.ofString "a"))) (zA4 (zB1 4) zB5))) zB5)))) zB5))) zB6) (zB3 (zG3 (zB4 (zC3 (zB1 5) (zA5 (V.int 2)) wEq)) (zB3 (zG1 (zD2 zE1 (zB1 3) zD1 (zA4 (wTup (zA4 (zA5 (V.str (Str.ofString "get_variable"))) (zA4 (wTup (zA4 (zA5 (V.str (Str.ofString "y"))) (zA4 (zA5 (V.int 1)) zB5))) (zA4 (wTup (zA4 (zA5 (V.str (Str.ofString "a"))) (zA4 (zB1 4) zB5))) zB5)))) zB5))) zB6) (zB3 (zG3 (wOrB (zB4 (zC3 (zB1 5) (zA5 (V.int 0)) wEq)) (wOrB (zB4 (zC3 (zB1 5) (zA5 (V.int 1)) wEq)) (wTrue false))) (zB3 (zG7 (wTup (zA4 (zA5 (V.str (Str.ofString "t"))) (zA4 (zD3 wLen (zA4 (zB1 2) zB5)) zB5))) 6) (zB3 (zG1 (zD2 zE1 (zB1 2) zD1 (zA4 (zB1 6) zB5))) (zB3 (zG3 (zB4 (zC3 (zB1 5) (zA5 (V.int 0)) wEq)) (zB3 (zG1 (zD2 zE1 (zB1 3) zD1 (zA4 (wTup (zA4 (zA5 (V.str (Str.ofString "get_variable"))) (zA4 (zB1 6) (zA4 (wTup (zA4 (zA5 (V.str (Str.ofString "a"))) (zA4 (zB1 4) zB5))) zB5)))) zB5))) zB6) (zB3 (zG1 (zD2 zE1 (zB1 3) zD1 (zA4 (wTup (zA4 (zA5 (V.str (Str.ofString "get_list"))) (zA4 (wTup (zA4 (zA5 (V.str (Str.ofString "a"))) (zA4 (zB1 4) zB5))) zB5))) zB5))) (zB3 (zG1 (zD2 zE1 (zB1 3) zD1 (zA4 (wTup (zA4 (zA5 (V.str (Str.ofString "unify_variable"))) (zA4 (zB1 6) zB5))) zB5))) zB6))) zB6))) zB6) zB6)) zB6)) zB6))
noncomputable def wb429 : Ls → Wp Fl := (zB3 (zG7 (zF5 zB5) 3) (zB3 (wFor (zD3 wRange (zA4 (zA5 (V.int 1)) (zA4 (zC3 (zB1 1) (zA5 (V.int 1)) wAdd) zB5))) (zG2 4) lb429_1) (zB3 (wRet (zB1 3)) zB6)))
theorem lb429_1_ap {l : Ls} {H : AH} {Q : Fl → AH → Prop} : lb429_1 l H Q = (zB3 (zG7 (zD3 sp422 (zA4 (zB1 0) (zA4 (zA5 (V.int 5)) zB5))) 5) (zB3 (zG3 (wAndB (zB4 (zC3 (zB1 5) (zA5 (V.int 4)) wEq)) (wAndB (zB4 (zC3 (zB1 2) (zF5 zB5) wNe)) (wTrue true))) (zB3 (zG1 (zD2 zE1 (zB1 3) zD1 (zA4 (wTup (zA4 (zA5 (V.str (Str.ofString "get_value"))) (zA4 (zC3 (zB1 2) (zC3 (zD3 sp422 (zA4 (zB1 0) (zA4 (zA5 (V.int 5)) zB5))) (zD3 wLen (zA4 (zB1 2) zB5)) wMod) zD5) (zA4 (wTup (zA4 (zA5 (V.str (Str.ofString "a"))) (zA4 (zB1 4) zB5))) zB5)))) zB5))) zB6) (zB3 (zG3 (zB4 (zC3 (zB1 5) (zA5 (V.int 2)) wEq)) (zB3 (zG1 (zD2 zE1 (zB1 3) zD1 (zA4 (wTup (zA4 (zA5 (V.str (Str.ofString "get_variable"))) (zA4 (wTup (zA4 (zA5 (V.str (Str.ofString "y"))) (zA4 (zA5 (V.int 1)) zB5))) (zA4 (wTup (zA4 (zA5 (V.str (Str.ofString "a"))) (zA4 (zB1 4) zB5))) zB5)))) zB5))) zB6) (zB3 (zG3 (wOrB (zB4 (zC3 (zB1 5) (zA5 (V.int 0)) wEq)) (wOrB (zB4 (zC3 (zB1 5) (zA5 (V.int 1)) wEq)) (wTrue false))) (zB3 (zG7 (wTup (zA4 (zA5 (V.str (Str.ofString "t"))) (zA4 (zD3 wLen (zA4 (zB1 2) zB5)) zB5))) 6) (zB3 (zG1 (zD2 zE1 (zB1 2) zD1 (zA4 (zB1 6) zB5))) (zB3 (zG3 (zB4 (zC3 (zB1 5) (zA5 (V.int 0)) wEq)) (zB3 (zG1 (zD2 zE1 (zB1 3) zD1 (zA4 (wTup (zA4 (zA5 (V.str (Str.ofString "get_variable"))) (zA4 (zB1 6) (zA4 (wTup (zA4 (zA5 (V.str (Str.ofString "a"))) (zA4 (zB1 4) zB5))) zB5)))) zB5))) zB6) (zB3 (zG1 (zD2 zE1 (zB1 3) zD1 (zA4 (wTup (zA4 (zA5 (V.str (Str.ofString "get_list"))) (zA4 (wTup (zA4 (zA5 (V.str (Str.ofString "a"))) (zA4 (zB1 4) zB5))) zB5))) zB5))) (zB3 (zG1 (zD2 zE1 (zB1 3) zD1 (zA4 (wTup (zA4 (zA5 (V.str (Str.ofString "unify_variable"))) (zA4 (zB1 6) zB5))) zB5))) zB6))) zB6))) zB6) zB6)) zB6)) zB6)) l H Q := rfl
theorem wb429_ap {l : Ls} {H : AH} {Q : Fl → AH → Prop} : wb429 l H Q = (zB3 (zG7 (zF5 zB5) 3) (zB3 (wFor (zD3 wRange (zA4 (zA5 (V.int 1)) (zA4 (zC3 (zB1 1) (zA5 (V.int 1)) wAdd) zB5))) (zG2 4) lb429_1) (zB3 (wRet (zB1 3)) zB6))) l H Q := rfl
theorem got_loop {H0 : AH} {ta ca lm n : Addr} {k : Nat} (hk : k ≤ 3) (F : Far H0 ta ca lm n) (src : Src) (hs : ∃ lo hi, src = .rng lo hi) (K : Fl → AH → Prop)
    (q : ∀ H' is m l, WS' H0 H' ta ca lm n 0 m is → ItsS k is ⟨0, 0, 1, true⟩ ⟨0, m, 1, true⟩ → m ≤ k → is.length ≤ 2 * k → K (.next (some (.ref ta) :: some (.int k) :: some (.ref lm) :: some (.ref n) :: l)) H') :
    ∀ (j i : Nat) (H : AH) (is : List zC7) (m : Nat) (x4 x5 x6 : Option V), i + j = k → WS' H0 H ta ca lm n 0 m is → ItsS k is ⟨0, 0, 1, true⟩ ⟨0, m, 1, true⟩ → m ≤ i → is.length ≤ 2 * i →
    wLoop src (zG2 4) lb429_1 ((List.range' i j).map fun z : Nat => .int (1 + (z : Int))) [some (.ref ta), some (.int k), some (.ref lm), some (.ref n), x4, x5, x6] H K := by
  intro j
  have st : ∀ H, Still H src := fun H => by obtain ⟨lo, hi, rfl⟩ := hs; trivial
  induction j with
  | zero =>
    intro i H is m x4 x5 x6 e W S hm hl
    exact q H is m _ W S (by lia) (by lia)
  | succ j ih =>
    intro i H is m x4 x5 x6 e W S hm hl
    simp! only [↓lb429_1_ap]
    refine W.digit F (by lia) (by lia) fun way H1 v0 v1 W1 _ => ?_
    have go : ∀ (H' : AH) (js : List zC7) (m' : Nat) (x6 : Option V), WS' H0 H' ta ca lm n 0 m' (is ++ js) → ItsS k js ⟨0, m, 1, true⟩ ⟨0, m', 1, true⟩ → m' ≤ i + 1 → js.length ≤ 2 →
        Still H' src ∧ wLoop src (zG2 4) lb429_1 ((List.range' (i + 1) j).map fun z : Nat => .int (1 + (z : Int))) [some (.ref ta), some (.int k), some (.ref lm), some (.ref n), some (.int (1 + (i : Int))), some (.int way), x6] H' K := fun H' js m' x6 W' S' a1 a2 =>
      ⟨st H', ih (i + 1) H' (is ++ js) m' _ _ _ (by lia) W' (S.append S') a1 (by simp; lia)⟩
    have none : Still H1 src ∧ wLoop src (zG2 4) lb429_1 ((List.range' (i + 1) j).map fun z : Nat => .int (1 + (z : Int))) [some (.ref ta), some (.int k), some (.ref lm), some (.ref n), some (.int (1 + (i : Int))), some (.int way), x6] H1 K :=
      ⟨st H1, ih (i + 1) H1 is m _ _ _ (by lia) W1 S (by lia) (by lia)⟩
    have len1 : ∀ {H : AH} {m} {is : List zC7}, is.length ≤ 100 → WS' H0 H ta ca lm n 0 m is → (rowsV is).length ≤ 1000000 := fun h W => by simp [rowsV]; lia
    have len2 : ∀ {H : AH} {m} {is : List zC7}, m ≤ 100 → WS' H0 H ta ca lm n 0 m is → (mets 0 m).length ≤ 1000000 := fun h W => by rw [mets_len]; lia
    by_cases h4 : way = 4
    · simp! only [↓eq_t h4, ↓eq_f (show way ≠ 2 by lia), ↓eq_f (show way ≠ 0 by lia), ↓eq_f (show way ≠ 1 by lia)]
      refine ⟨by lia, fun z hz => ?_⟩
      have W2 := W1.new hz []
      have hz0 : (H1.set z (.list [])) z = some (.list []) := AH.set_self ..
      by_cases m0 : m = 0
      · simp! only [↓ne_nil0 W2.met hz0 m0, ↓eq_f (show way ≠ 2 by lia), ↓eq_f (show way ≠ 0 by lia), ↓eq_f (show way ≠ 1 by lia)]
        have := ih (i + 1) _ is m (some (.int (1 + (i : Int)))) (some (.int way)) x6 (by lia) W2 S (by lia) (by lia)
        exact ⟨st _, this⟩
      · simp! only [↓ne_nil1 W2.met hz0 m0, ↓ok_list W2.code]
        refine W2.digit F (by lia) (by lia) fun v H3 v0 v1 W3 k3 => ?_
        simp! only [↓len_list W3.met (len2 (by lia) W3), mets_len]
        refine pick W3.met (by lia) (by lia) v fun y hy => ?_
        simp! only [↓zH3 W3.code (len1 (by lia) W3)]
        refine ⟨by lia, by lia, ?_⟩
        refine go _ [.gval (0 + (y : Int)) (1 + (i : Int))] m _ (W3.app F _ rfl) ?_ (by lia) (by simp)
        exact ItsS.one ⟨fun h => noB h, m, 1, ⟨_, .rt (by simp) (by simp) (by simp; lia), _, .ra (by simp) rfl (by lia) (by lia), rfl⟩, rfl⟩
    · by_cases h2 : way = 2
      · simp! only [↓eq_f h4, ↓eq_t h2, ↓ok_list W1.code, ↓zH3 W1.code (len1 (by lia) W1)]
        refine ⟨by lia, by lia, by lia, ?_⟩
        refine go _ [.gvy (1 + (i : Int))] m _ (W1.app F _ rfl) ?_ (by lia) (by simp)
        exact ItsS.one ⟨fun h => noB h, m, 1, ⟨_, .ra (by simp) rfl (by lia) (by lia), _, .y, rfl⟩, rfl⟩
      · have own : (Op.t (m : Int)).v = (Op.t (0 + (m : Int))).v := by simp
        by_cases h0 : way = 0
        · simp! only [↓eq_f h4, ↓eq_f h2, ↓eq_t h0, ↓ok_list W1.met, ↓len_list W1.met (len2 (by lia) W1), ↓zH3 W1.met (len2 (by lia) W1), mets_len]
          refine ⟨by lia, ?_⟩
          have W2 := W1.grow F (xs := mets 0 m ++ [(Op.t (m : Int)).v]) (by rw [own])
          show zE1 (H1.set lm (.list (mets 0 m ++ [(Op.t (m : Int)).v]))) (.ref n) ∧ _
          simp only [↓ok_list W2.code]
          refine ⟨trivial, by lia, by lia, ?_⟩
          show zD1 [.ref n, _] (H1.set lm (.list (mets 0 m ++ [(Op.t (m : Int)).v]))) _
          rw [zH3 W2.code (len1 (by lia) W2)]
          refine go _ [.gvt (m : Int) (1 + (i : Int))] (m + 1) _ (W2.app F _ rfl) ?_ (by lia) (by simp)
          exact ItsS.one ⟨fun h => noB h, m + 1, 1, ⟨_, .ra (by simp) rfl (by lia) (by lia), _, .wt, rfl⟩, rfl⟩
        · by_cases h1 : way = 1
          · simp! only [↓eq_f h4, ↓eq_f h2, ↓eq_f h0, ↓eq_t h1, ↓ok_list W1.met, ↓len_list W1.met (len2 (by lia) W1), ↓zH3 W1.met (len2 (by lia) W1), mets_len]
            refine ⟨by lia, ?_⟩
            have W2 := W1.grow F (xs := mets 0 m ++ [(Op.t (m : Int)).v]) (by rw [own])
            show zE1 (H1.set lm (.list (mets 0 m ++ [(Op.t (m : Int)).v]))) (.ref n) ∧ _
            simp only [↓ok_list W2.code]
            refine ⟨trivial, by lia, by lia, ?_⟩
            show zD1 [.ref n, _] (H1.set lm (.list (mets 0 m ++ [(Op.t (m : Int)).v]))) _
            rw [zH3 W2.code (len1 (by lia) W2)]
            have W3 := W2.app F [.glist (1 + (i : Int))] (xs := rowsV is ++ [Row.v (zC7.row (.glist (1 + (i : Int))))]) rfl
            refine ⟨?_, ?_⟩
            · show zE1 ((H1.set lm (.list (mets 0 m ++ [(Op.t (m : Int)).v]))).set n (.list (rowsV is ++ [Row.v (zC7.row (.glist (1 + (i : Int))))]))) (.ref n)
              rw [ok_list W3.code]; trivial
            · simp! only []
              refine ⟨by lia, ?_⟩
              show zD1 [.ref n, _] ((H1.set lm (.list (mets 0 m ++ [(Op.t (m : Int)).v]))).set n (.list (rowsV is ++ [Row.v (zC7.row (.glist (1 + (i : Int))))]))) _
              rw [zH3 W3.code (len1 (by simp; lia) W3)]
              have W4 := W3.app F [.uv (m : Int)] (xs := rowsV (is ++ [.glist (1 + (i : Int))]) ++ [Row.v (zC7.row (.uv (m : Int)))]) rfl
              simp only [List.append_assoc] at W4
              refine go _ [.glist (1 + (i : Int)), .uv (m : Int)] (m + 1) _ W4 ?_ (by lia) (by simp)
              exact ⟨_, ⟨fun h => noB h, m, 1, ⟨_, .ra (by simp) rfl (by lia) (by lia), rfl⟩, rfl⟩, _, ⟨fun h => noB h, m + 1, 1, ⟨_, .wt, rfl⟩, rfl⟩, rfl⟩
          · simp! only [↓eq_f h4, ↓eq_f h2, ↓eq_f h0, ↓eq_f h1]
            exact none
section
variable {c : Cx} (Fn : Fns c.K)
include Fn
theorem rf429 : RF c 2 429 sp429 := by
  have h422 := (rf422 Fn : RF c 1 422 sp422)
  have hnd : ((["tape", "arity", "met"] : List Str) ++ (["code", "number", "way", "own"] : List Str)).Nodup := by decide
  refine rf_of (ps := (["tape", "arity", "met"] : List Str)) (rest := (["code", "number", "way", "own"] : List Str)) Fn.f429 (zA1 (zD6 3 (zE2 zA7)) (zA1 (rs_for (zH2 _ rb_range (zA2 zB2 (zA2 (re_bin (zA3 1) zB2 rv_add) zA7))) (tg_name 4) (zA1 (zD6 5 (zE6 (f := 422) h422 (zA2 (zA3 0) (zA2 zB2 zA7)))) (zA1 (zE5 (zH4 (rts_and (zC4 (zA3 5) zB2 zE4) (rts_and (zC4 (zA3 2) (zE2 zA7) rv_ne) rts_nilA))) (zA1 (zG6 (zD7 (zA3 3) zF7 (zA2 (zE7 (zA2 zC6 (zA2 (zC2 (zA3 2) (re_bin (zE6 (f := 422) h422 (zA2 (zA3 0) (zA2 zB2 zA7))) (zH2 _ rb_len (zA2 (zA3 2) zA7)) rv_mod) zC1) (zA2 (zE7 (zA2 zC6 (zA2 (zA3 4) zA7))) zA7)))) zA7) (gm_list F.slot_list_append) _)) zA6) (zA1 (zE5 (zC4 (zA3 5) zB2 zE4) (zA1 (zG6 (zD7 (zA3 3) zF7 (zA2 (zE7 (zA2 zC6 (zA2 (zE7 (zA2 zC6 (zA2 zB2 zA7))) (zA2 (zE7 (zA2 zC6 (zA2 (zA3 4) zA7))) zA7)))) zA7) (gm_list F.slot_list_append) _)) zA6) (zA1 (zE5 (zH4 (zH7 (zC4 (zA3 5) zB2 zE4) (zH7 (zC4 (zA3 5) zB2 zE4) rts_nilO))) (zA1 (zD6 6 (zE7 (zA2 zC6 (zA2 (zH2 _ rb_len (zA2 (zA3 2) zA7)) zA7)))) (zA1 (zG6 (zD7 (zA3 2) zF7 (zA2 (zA3 6) zA7) (gm_list F.slot_list_append) _)) (zA1 (zE5 (zC4 (zA3 5) zB2 zE4) (zA1 (zG6 (zD7 (zA3 3) zF7 (zA2 (zE7 (zA2 zC6 (zA2 (zA3 6) (zA2 (zE7 (zA2 zC6 (zA2 (zA3 4) zA7))) zA7)))) zA7) (gm_list F.slot_list_append) _)) zA6) (zA1 (zG6 (zD7 (zA3 3) zF7 (zA2 (zE7 (zA2 zC6 (zA2 (zE7 (zA2 zC6 (zA2 (zA3 4) zA7))) zA7))) zA7) (gm_list F.slot_list_append) _)) (zA1 (zG6 (zD7 (zA3 3) zF7 (zA2 (zE7 (zA2 zC6 (zA2 (zA3 6) zA7))) zA7) (gm_list F.slot_list_append) _)) zA6))) zA6))) zA6) zA6)) zA6)) zA6))) (zA1 (zD4 (zA3 3)) zA6))) ?_ (fun pm cd => len3 (fun _ _ _ => by rfl))
  rintro xs H Q wf ⟨ta, ca, k, lm, rfl, T, hlm, d1, d2, hk, q⟩
  refine ⟨rfl, ?_⟩
  show wBody wb429 _ H _
  simp! only [↓wb429_ap, ↓add_int, ↓wFor, ↓wRange_2]
  refine ⟨by lia, fun n hn => ?_⟩
  intro r hr
  obtain ⟨x, i, kk, t⟩ := T
  have F : Far H ta ca lm n := ⟨d1, d2, hn, (AH.ne_of t.t hn).symm, (AH.ne_of t.c hn).symm, (AH.ne_of hlm hn).symm⟩
  have l1 : Le H (H.set n (.list [])) := (Le.refl H).set hn
  have W0 : WS' H (H.set n (.list [])) ta ca lm n 0 0 [] := ⟨⟨x, i, kk, l1 _ _ t.t, l1 _ _ t.c, t.ne, t.i0, t.i1, t.few⟩, l1 _ _ hlm, AH.set_self .., fun x o e _ _ _ => l1 _ _ e, wf.new hn⟩
  have W1 := W0.ext ((Le.refl _).set (o := .rng 1 ((k : Int) + 1)) hr) (W0.wf.new hr)
  refine ⟨.rng 1 ((k : Int) + 1), .rng (AH.set_self ..), ⟨by lia, by lia⟩, ?_⟩
  have e : ((.rng 1 ((k : Int) + 1) : Src)).items = (List.range' 0 k).map fun z : Nat => V.int (1 + (z : Int)) := by
    show (List.range ((k : Int) + 1 - 1).toNat).map _ = _
    rw [show ((k : Int) + 1 - 1).toNat = k by lia, List.range_eq_range']
  rw [e]
  refine got_loop hk F _ ⟨_, _, rfl⟩ _ (fun H' is m l W S hm hl => ?_) k 0 _ [] 0 none none none (by lia) W1 rfl (by lia) (by simp)
  exact zB7 W.wf (q H' n is m W F S hm hl)
end
end
section
noncomputable def wayM (w : Int) (m : Nat) : Nat := if w < 6 then m + 1 else m
noncomputable def waySp (w s : Int) : Int := if w = 11 then 1 else if w = 2 ∨ w = 6 ∨ w = 7 ∨ w = 8 then s + 1 else s
theorem way_its {k : Nat} {b : Int} {m : Nat} {w s : Int} {y : Nat} (w0 : 0 ≤ w) (w1 : w < 12) (hy : y < m) (s0 : 1 ≤ s) (s1 : s ≤ 6) : ItsS k (wayItems w (b + m) (b + y) s) ⟨b, b + m, s, false⟩ ⟨b, b + (wayM w m : Nat), waySp w s, false⟩ := by
  have rt : ∀ {ro : Int} {fs}, ro ≠ 2 → OpS k ⟨b, b + m, s, false⟩ fs (ro, .t (b + y)) fs := fun h => .rt h (by show b ≤ b + (y : Int); lia) (by show b + (y : Int) < b + m; lia)
  have rt' : ∀ {ro : Int} {fs}, ro ≠ 2 → OpS k ⟨b, b + m + 1, s, false⟩ fs (ro, .t (b + y)) fs := fun h => .rt h (by show b ≤ b + (y : Int); lia) (by show b + (y : Int) < b + m + 1; lia)
  have rs' : ∀ {ro : Int} {fs}, ro ≠ 2 → OpS k ⟨b, b + m, s + 1, false⟩ fs (ro, .t (b + y)) fs := fun h => .rt h (by show b ≤ b + (y : Int); lia) (by show b + (y : Int) < b + m; lia)
  have wa : ∀ {g : G} {f}, g.gets = false → OpS k g (f, s) (2, .a s) (f, s + 1) := fun h => .wa h s0 s1
  have c11 : w = 0 ∨ w = 1 ∨ w = 2 ∨ w = 3 ∨ w = 4 ∨ w = 5 ∨ w = 6 ∨ w = 7 ∨ w = 8 ∨ w = 9 ∨ w = 10 ∨ w = 11 := by lia
  have one : ∀ (i : zC7) (f s' : Int), (i.ends = true → False) → OpsS k ⟨b, b + m, s, false⟩ i.rol (b + m, s) (f, s') → i.calls = false → i.ends = false → ItsS k [i] ⟨b, b + m, s, false⟩ ⟨b, f, s', false⟩ := fun i f s' h1 h2 h3 h4 => ⟨_, ⟨fun _ => rfl, f, s', h2, rfl⟩, by simp [G.next, h3, h4, ItsS]⟩
  rcases c11 with h | h | h | h | h | h | h | h | h | h | h | h <;> subst h
  · have e : b + ((wayM 0 m : Nat) : Int) = b + m + 1 := by simp [wayM]; lia
    rw [e]; exact one (.pv _ _) _ _ (fun h => noB h) ⟨_, rt (by simp), _, .wt, rfl⟩ rfl rfl
  · have e : b + ((wayM 1 m : Nat) : Int) = b + m + 1 := by simp [wayM]; lia
    rw [e]; exact one (.gv _ _) _ _ (fun h => noB h) ⟨_, rt (by simp), _, .wt, rfl⟩ rfl rfl
  · have e : b + ((wayM 2 m : Nat) : Int) = b + m + 1 := by simp [wayM]; lia
    rw [e]; exact one (.pvar _ _) _ _ (fun h => noB h) ⟨_, .wt, _, wa rfl, rfl⟩ rfl rfl
  · have e : b + ((wayM 3 m : Nat) : Int) = b + m + 1 := by simp [wayM]; lia
    rw [e]
    exact ⟨_, ⟨fun _ => rfl, _, _, ⟨_, .wt, rfl⟩, rfl⟩, _, ⟨fun _ => rfl, _, _, ⟨_, rt' (by simp), rfl⟩, rfl⟩, rfl⟩
  · have e : b + ((wayM 4 m : Nat) : Int) = b + m + 1 := by simp [wayM]; lia
    rw [e]; exact one (.mark _) _ _ (fun h => noB h) ⟨_, .wt, rfl⟩ rfl rfl
  · have e : b + ((wayM 5 m : Nat) : Int) = b + m + 1 := by simp [wayM]; lia
    rw [e]; exact one (.pvy _) _ _ (fun h => noB h) ⟨_, .y, _, .wt, rfl⟩ rfl rfl
  · exact one (.pva _ _) _ _ (fun h => noB h) ⟨_, rt (by simp), _, wa rfl, rfl⟩ rfl rfl
  · exact one (.puv _) _ _ (fun h => noB h) ⟨_, .y, _, wa rfl, rfl⟩ rfl rfl
  · exact ⟨_, ⟨fun _ => rfl, _, _, ⟨_, wa rfl, rfl⟩, rfl⟩, _, ⟨fun _ => rfl, _, _, ⟨_, rs' (by simp), rfl⟩, rfl⟩, rfl⟩
  · exact one (.gvyt _) _ _ (fun h => noB h) ⟨_, rt (by simp), _, .y, rfl⟩ rfl rfl
  · exact one (.cut _) _ _ (fun h => noB h) ⟨_, rt (by simp), rfl⟩ rfl rfl
  · exact ⟨_, ⟨fun _ => rfl, _, _, rfl, rfl⟩, rfl⟩
theorem way_len (w o u s : Int) : (wayItems w o u s).length ≤ 2 := by
  have key : ∀ (c : Prop) [Decidable c] (a b : List zC7), a.length ≤ 2 → b.length ≤ 2 → (if c then a else b).length ≤ 2 := fun c _ a b ha hb => by by_cases h : c <;> simp only [h, if_true, if_false, ha, hb]
  repeat' apply key
  all_goals simp
theorem in4 {w : Int} {H : AH} {a : Addr} (h : H a = some (.list [.int 2, .int 6, .int 7, .int 8])) {Q : V → AH → Prop} : wInB id (.int w) (.ref a) H Q = Q (.bool (decide (w = 2 ∨ w = 6 ∨ w = 7 ∨ w = 8))) H := by
  unfold wInB
  simp only [h]
  have e1 : okVs 5 [.int 2, .int 6, .int 7, .int 8] = true := rfl
  have e2 : id ((toPs [.int 2, .int 6, .int 7, .int 8]).any fun y => PyData.eqv y (.int w)) = decide (w = 2 ∨ w = 6 ∨ w = 7 ∨ w = 8) := by
    simp only [tpN, tpC, tpI, List.any_cons, List.any_nil, eqv_int, id, Bool.or_false]
    simp only [Bool.decide_or, @eq_comm Int w]
  rw [e1, e2]; simp
theorem in4t {w : Int} {H : AH} {a : Addr} (h : H a = some (.list [.int 2, .int 6, .int 7, .int 8])) (e : w = 2 ∨ w = 6 ∨ w = 7 ∨ w = 8) {Q : V → AH → Prop} : wInB id (.int w) (.ref a) H Q = Q (.bool true) H := by
  rw [in4 h, decide_eq_true e]
theorem in4f {w : Int} {H : AH} {a : Addr} (h : H a = some (.list [.int 2, .int 6, .int 7, .int 8])) (e : ¬ (w = 2 ∨ w = 6 ∨ w = 7 ∨ w = 8)) {Q : V → AH → Prop} : wInB id (.int w) (.ref a) H Q = Q (.bool false) H := by
  rw [in4 h, decide_eq_false e]
inductive Sp443 (xs : List V) (H : AH) (Q : V → AH → Prop) : Prop
  | of : ∀ (ta ca lm : Addr) (b : Int) (m0 : Nat), (xs = [.ref ta, .int b, .ref lm]) → (Tape H ta ca) → (H lm = some (.list (mets b m0))) → (lm ≠ ta) → (lm ≠ ca) → (m0 ≤ 10) → (∀ H' n is m, WS' H H' ta ca lm n b m is → Far H ta ca lm n → (∀ k, ItsS k is ⟨b, b + m0, 1, false⟩ ⟨b + m, b + m, 1, false⟩) → m ≤ m0 + 6 → 1 ≤ m → is.length ≤ 12 → (∃ i ∈ is, zC7.calls i = true) → Q (.ref n) H') → Sp443 xs H Q
noncomputable abbrev sp443 : List V → Wp V := Sp443
noncomputable def lb443_1 : Ls → Wp Fl := (zB3 (zG7 (zD3 sp422 (zA4 (zB1 0) (zA4 (zA5 (V.int 12)) zB5))) 6) (zB3 (zG7 (zC3 (zB1 2) (zC3 (zD3 sp422 (zA4 (zB1 0) (zA4 (zA5 (V.int 5)) zB5))) (zD3 wLen (zA4 (zB1 2) zB5)) wMod) zD5) 7) (zB3 (zG7 (wTup (zA4 (zA5 (V.str (Str.ofString "t"))) (zA4 (zC3 (zB1 1) (zD3 wLen (zA4 (zB1 2) zB5)) wAdd) zB5))) 8) (zB3 (zG1 (zD2 zE1 (zB1 3) wExtend (zA4 (zD3 sp436 (zA4 (zB1 6) (zA4 (zB1 8) (zA4 (zB1 7) (zA4 (wTup (zA4 (zA5 (V.str (Str.ofString "a"))) (zA4 (zB1 4) zB5))) zB5))))) zB5))) (zB3 (zG3 (zB4 (zC3 (zB1 6) (zA5 (V.int 6)) (wInt fun i j => V.bool (decide (i < j))))) (zB3 (zG1 (zD2 zE1 (zB1 2) zD1 (zA4 (zB1 8) zB5))) zB6) zB6) (zB3 (zG3 (zB4 (zC3 (zB1 6) (zF5 (zA4 (zA5 (V.int 2)) (zA4 (zA5 (V.int 6)) (zA4 (zA5 (V.int 7)) (zA4 (zA5 (V.int 8)) zB5))))) (wInB id))) (zB3 (wAug 4 (zA5 (V.int 1))) zB6) zB6) (zB3 (zG3 (zB4 (zC3 (zB1 6) (zA5 (V.int 11)) wEq)) (zB3 (zG7 (zA5 (V.int 1)) 4) zB6) zB6) zB6)))))))
noncomputable def wb443 : Ls → Wp Fl := (zB3 (zG7 (zF5 zB5) 3) (zB3 (zG7 (zA5 (V.int 1)) 4) (zB3 (zG3 (zB4 (zC3 (zB1 2) (zF5 zB5) wEq)) (zB3 (zG1 (zD2 zE1 (zB1 2) zD1 (zA4 (wTup (zA4 (zA5 (V.str (Str.ofString "t"))) (zA4 (zB1 1) zB5))) zB5))) (zB3 (zG1 (zD2 zE1 (zB1 3) zD1 (zA4 (wTup (zA4 (zA5 (V.str (Str.ofString "put_void"))) (zA4 (zC3 (zB1 2) (zA5 (V.int 0)) zD5) zB5))) zB5))) zB6)) zB6) (zB3 (wFor (zD3 wRange (zA4 (zD3 sp422 (zA4 (zB1 0) (zA4 (zA5 (V.int 6)) zB5))) zB5)) (zG2 5) lb443_1) (zB3 (zG1 (zD2 zE1 (zB1 3) zD1 (zA4 (zC3 (zF5 (zA4 (wTup (zA4 (zA5 (V.str (Str.ofString "call"))) (zA4 (zA5 (V.int 9)) (zA4 (zA5 (V.int 1)) zB5)))) (zA4 (wTup (zA4 (zA5 (V.str (Str.ofString "execute"))) (zA4 (zA5 (V.int 9)) zB5))) zB5))) (zD3 sp422 (zA4 (zB1 0) (zA4 (zA5 (V.int 2)) zB5))) zD5) zB5))) (zB3 (wRet (zB1 3)) zB6))))))
theorem lb443_1_ap {l : Ls} {H : AH} {Q : Fl → AH → Prop} : lb443_1 l H Q = (zB3 (zG7 (zD3 sp422 (zA4 (zB1 0) (zA4 (zA5 (V.int 12)) zB5))) 6) (zB3 (zG7 (zC3 (zB1 2) (zC3 (zD3 sp422 (zA4 (zB1 0) (zA4 (zA5 (V.int 5)) zB5))) (zD3 wLen (zA4 (zB1 2) zB5)) wMod) zD5) 7) (zB3 (zG7 (wTup (zA4 (zA5 (V.str (Str.ofString "t"))) (zA4 (zC3 (zB1 1) (zD3 wLen (zA4 (zB1 2) zB5)) wAdd) zB5))) 8) (zB3 (zG1 (zD2 zE1 (zB1 3) wExtend (zA4 (zD3 sp436 (zA4 (zB1 6) (zA4 (zB1 8) (zA4 (zB1 7) (zA4 (wTup (zA4 (zA5 (V.str (Str.ofString "a"))) (zA4 (zB1 4) zB5))) zB5))))) zB5))) (zB3 (zG3 (zB4 (zC3 (zB1 6) (zA5 (V.int 6)) (wInt fun i j => V.bool (decide (i < j))))) (zB3 (zG1 (zD2 zE1 (zB1 2) zD1 (zA4 (zB1 8) zB5))) zB6) zB6) (zB3 (zG3 (zB4 (zC3 (zB1 6) (zF5 (zA4 (zA5 (V.int 2)) (zA4 (zA5 (V.int 6)) (zA4 (zA5 (V.int 7)) (zA4 (zA5 (V.int 8)) zB5))))) (wInB id))) (zB3 (wAug 4 (zA5 (V.int 1))) zB6) zB6) (zB3 (zG3 (zB4 (zC3 (zB1 6) (zA5 (V.int 11)) wEq)) (zB3 (zG7 (zA5 (V.int 1)) 4) zB6) zB6) zB6))))))) l H Q := rfl
theorem wb443_ap {l : Ls} {H : AH} {Q : Fl → AH → Prop} : wb443 l H Q = (zB3 (zG7 (zF5 zB5) 3) (zB3 (zG7 (zA5 (V.int 1)) 4) (zB3 (zG3 (zB4 (zC3 (zB1 2) (zF5 zB5) wEq)) (zB3 (zG1 (zD2 zE1 (zB1 2) zD1 (zA4 (wTup (zA4 (zA5 (V.str (Str.ofString "t"))) (zA4 (zB1 1) zB5))) zB5))) (zB3 (zG1 (zD2 zE1 (zB1 3) zD1 (zA4 (wTup (zA4 (zA5 (V.str (Str.ofString "put_void"))) (zA4 (zC3 (zB1 2) (zA5 (V.int 0)) zD5) zB5))) zB5))) zB6)) zB6) (zB3 (wFor (zD3 wRange (zA4 (zD3 sp422 (zA4 (zB1 0) (zA4 (zA5 (V.int 6)) zB5))) zB5)) (zG2 5) lb443_1) (zB3 (zG1 (zD2 zE1 (zB1 3) zD1 (zA4 (zC3 (zF5 (zA4 (wTup (zA4 (zA5 (V.str (Str.ofString "call"))) (zA4 (zA5 (V.int 9)) (zA4 (zA5 (V.int 1)) zB5)))) (zA4 (wTup (zA4 (zA5 (V.str (Str.ofString "execute"))) (zA4 (zA5 (V.int 9)) zB5))) zB5))) (zD3 sp422 (zA4 (zB1 0) (zA4 (zA5 (V.int 2)) zB5))) zD5) zB5))) (zB3 (wRet (zB1 3)) zB6)))))) l H Q := rfl
theorem ext_list {H : AH} {a z : Addr} {xs ys : List V} (h : H a = some (.list xs)) (h' : H z = some (.list ys)) (hl : xs.length + ys.length ≤ 1000000) {Q : V → AH → Prop} : wExtend [.ref a, .ref z] H Q = Q .none (H.set a (.list (xs ++ ys))) := by
  dsimp only [wExtend]; simp only [h, h']
  exact propext ⟨fun x => x.2, fun x => ⟨hl, x⟩⟩
theorem str_loop {H0 : AH} {ta ca lm n : Addr} {b : Int} {m0 : Nat} (F : Far H0 ta ca lm n) (src : Src) (hs : ∃ lo hi, src = .rng lo hi) (K : Fl → AH → Prop)
    (q : ∀ H' is m spot l, WS' H0 H' ta ca lm n b m is → (∀ k, ItsS k is ⟨b, b + m0, 1, false⟩ ⟨b, b + m, spot, false⟩) → m ≤ m0 + 6 → 1 ≤ m → is.length ≤ 11 → K (.next (some (.ref ta) :: some (.int b) :: some (.ref lm) :: some (.ref n) :: l)) H') :
    ∀ (vs : List V) (i : Nat) (H : AH) (is : List zC7) (m : Nat) (spot : Int) (x5 x6 x7 x8 : Option V), vs.length + i ≤ 5 → WS' H0 H ta ca lm n b m is → (∀ k, ItsS k is ⟨b, b + m0, 1, false⟩ ⟨b, b + m, spot, false⟩) → 1 ≤ m → m ≤ m0 + 1 + i → m0 ≤ 10 → is.length ≤ 1 + 2 * i → 1 ≤ spot → spot ≤ 1 + i →
    wLoop src (zG2 5) lb443_1 vs [some (.ref ta), some (.int b), some (.ref lm), some (.ref n), some (.int spot), x5, x6, x7, x8] H K := by
  intro zz
  induction zz with
  | nil =>
    intro i H is m spot x5 x6 x7 x8 hv W S m1 m2 m3 hl s0 s1
    exact q H is m spot _ W S (by simp at hv; lia) m1 (by simp at hv; lia)
  | cons v vs ih =>
    intro i H is m spot x5 x6 x7 x8 hv W S m1 m2 m3 hl s0 s1
    simp only [List.length_cons] at hv
    simp! only [↓lb443_1_ap]
    refine W.digit F (by lia) (by lia) fun way H1 v0 v1 W1 _ => ?_
    refine W1.digit F (by lia) (by lia) fun d5 H2 v0' v1' W2 _ => ?_
    have len2 : ∀ {H : AH} {m} {is : List zC7}, m ≤ 100 → WS' H0 H ta ca lm n b m is → (mets b m).length ≤ 1000000 := fun h W => by rw [mets_len]; lia
    simp! only [↓len_list W2.met (len2 (by lia) W2), mets_len]
    refine pick W2.met (by lia) (by lia) d5 fun y hy => ?_
    simp! only [↓add_int, ↓len_list W2.met (len2 (by lia) W2), mets_len, ↓ok_list W2.code]
    refine ⟨by lia, by lia, way, b + m, b + y, spot, rfl, fun z hz => ?_⟩
    have W3 := W2.new hz (rowsV (wayItems way (b + m) (b + y) spot))
    have wl := way_len way (b + m) (b + y) spot
    show wExtend [.ref n, .ref z] _ _
    rw [ext_list W3.code (AH.set_self ..) (by simp [rowsV]; lia)]
    have W4 := W3.app F (wayItems way (b + m) (b + y) spot) rfl
    have S4 : ∀ k, ItsS k (is ++ wayItems way (b + m) (b + y) spot) ⟨b, b + m0, 1, false⟩ ⟨b, b + (wayM way m : Nat), waySp way spot, false⟩ := fun k => (S k).append (way_its v0 v1 hy s0 (by lia))
    have go : ∀ H', WS' H0 H' ta ca lm n b (wayM way m) (is ++ wayItems way (b + m) (b + y) spot) → Still H' src ∧ wLoop src (zG2 5) lb443_1 vs [some (.ref ta), some (.int b), some (.ref lm), some (.ref n), some (.int (waySp way spot)), some v, some (.int way), some (Op.t (b + y)).v, some (Op.t (b + m)).v] H' K := fun H' W' => by
      refine ⟨by obtain ⟨lo, hi, rfl⟩ := hs; trivial, ih (i + 1) H' _ _ _ _ _ _ _ (by lia) W' S4 ?_ ?_ m3 ?_ ?_ ?_⟩
      · unfold wayM; split <;> lia
      · unfold wayM; split <;> lia
      · simp; lia
      · unfold waySp; split <;> (try split) <;> lia
      · unfold waySp; split <;> (try split) <;> lia
    have fin : ∀ H', WS' H0 H' ta ca lm n b (wayM way m) (is ++ wayItems way (b + m) (b + y) spot) → zB3 (zG3 (zB4 (zC3 (zB1 6) (zF5 (zA4 (zA5 (V.int 2)) (zA4 (zA5 (V.int 6)) (zA4 (zA5 (V.int 7)) (zA4 (zA5 (V.int 8)) zB5))))) (wInB id))) (zB3 (wAug 4 (zA5 (V.int 1))) zB6) zB6) (zB3 (zG3 (zB4 (zC3 (zB1 6) (zA5 (V.int 11)) wEq)) (zB3 (zG7 (zA5 (V.int 1)) 4) zB6) zB6) zB6)
        [some (.ref ta), some (.int b), some (.ref lm), some (.ref n), some (.int spot), some v, some (.int way), some (Op.t (b + y)).v, some (Op.t (b + m)).v] H' (fun f H'' => match f with
        | .next l'' => Still H'' src ∧ wLoop src (zG2 5) lb443_1 vs l'' H'' K
        | .cont l'' => Still H'' src ∧ wLoop src (zG2 5) lb443_1 vs l'' H'' K
        | .brk l'' => K (.next l'') H''
        | .ret v => K (.ret v) H'') := fun H' W' => by
      simp! only []
      refine ⟨by lia, fun z hz => ?_⟩
      have W5 := W'.new hz [.int 2, .int 6, .int 7, .int 8]
      have g := go _ W5
      by_cases h2 : way = 2 ∨ way = 6 ∨ way = 7 ∨ way = 8
      · have h11 : way ≠ 11 := by lia
        simp only [waySp, h11, h2, if_true, if_false] at g
        simp! only [↓in4t (AH.set_self H' z (.list [.int 2, .int 6, .int 7, .int 8])) h2, ↓eq_f h11]
        exact g
      · by_cases h11 : way = 11
        · simp only [waySp, h11, if_true] at g
          simp! only [↓in4f (AH.set_self H' z (.list [.int 2, .int 6, .int 7, .int 8])) h2, ↓eq_t h11]
          rw [← h11] at g
          exact g
        · simp only [waySp, h11, h2, if_false] at g
          simp! only [↓in4f (AH.set_self H' z (.list [.int 2, .int 6, .int 7, .int 8])) h2, ↓eq_f h11]
          exact g
    by_cases h6 : way < 6
    · have e : wayM way m = m + 1 := by simp [wayM, h6]
      rw [e] at fin
      simp! only [↓lt_t h6, ↓ok_list W4.met, ↓zH3 W4.met (len2 (by lia) W4)]
      exact fin _ (W4.grow F rfl)
    · simp! only [↓lt_f h6]
      have e : wayM way m = m := by simp [wayM, h6]
      rw [e] at fin
      exact fin _ W4
section
variable {c : Cx} (Fn : Fns c.K)
include Fn
theorem rf443 : RF c 2 443 sp443 := by
  have h422 := (rf422 Fn : RF c 1 422 sp422)
  have h436 := (rf436 Fn : RF c 1 436 sp436)
  have hnd : ((["tape", "begun", "met"] : List Str) ++ (["code", "spot", "lap", "way", "use", "own"] : List Str)).Nodup := by decide
  refine rf_of (ps := (["tape", "begun", "met"] : List Str)) (rest := (["code", "spot", "lap", "way", "use", "own"] : List Str)) Fn.f443 (zA1 (zD6 3 (zE2 zA7)) (zA1 (zD6 4 zB2) (zA1 (zE5 (zC4 (zA3 2) (zE2 zA7) zE4) (zA1 (zG6 (zD7 (zA3 2) zF7 (zA2 (zE7 (zA2 zC6 (zA2 (zA3 1) zA7))) zA7) (gm_list F.slot_list_append) _)) (zA1 (zG6 (zD7 (zA3 3) zF7 (zA2 (zE7 (zA2 zC6 (zA2 (zC2 (zA3 2) zB2 zC1) zA7))) zA7) (gm_list F.slot_list_append) _)) zA6)) zA6) (zA1 (rs_for (zH2 _ rb_range (zA2 (zE6 (f := 422) h422 (zA2 (zA3 0) (zA2 zB2 zA7))) zA7)) (tg_name 5) (zA1 (zD6 6 (zE6 (f := 422) h422 (zA2 (zA3 0) (zA2 zB2 zA7)))) (zA1 (zD6 7 (zC2 (zA3 2) (re_bin (zE6 (f := 422) h422 (zA2 (zA3 0) (zA2 zB2 zA7))) (zH2 _ rb_len (zA2 (zA3 2) zA7)) rv_mod) zC1)) (zA1 (zD6 8 (zE7 (zA2 zC6 (zA2 (re_bin (zA3 1) (zH2 _ rb_len (zA2 (zA3 2) zA7)) rv_add) zA7)))) (zA1 (zG6 (zD7 (zA3 3) rb_extend (zA2 (zE6 (f := 436) h436 (zA2 (zA3 6) (zA2 (zA3 8) (zA2 (zA3 7) (zA2 (zE7 (zA2 zC6 (zA2 (zA3 4) zA7))) zA7))))) zA7) (gm_list F.slot_list_extend) _)) (zA1 (zE5 (zC4 (zA3 6) zB2 rv_lt) (zA1 (zG6 (zD7 (zA3 2) zF7 (zA2 (zA3 8) zA7) (gm_list F.slot_list_append) _)) zA6) zA6) (zA1 (zE5 (zC4 (zA3 6) (zE2 (zA2 zB2 (zA2 zB2 (zA2 zB2 (zA2 zB2 zA7))))) rv_in) (zA1 (rs_aug 4 zB2) zA6) zA6) (zA1 (zE5 (zC4 (zA3 6) zB2 zE4) (zA1 (zD6 4 zB2) zA6) zA6) zA6)))))))) (zA1 (zG6 (zD7 (zA3 3) zF7 (zA2 (zC2 (zE2 (zA2 (zE7 (zA2 zC6 (zA2 zB2 (zA2 zB2 zA7)))) (zA2 (zE7 (zA2 zC6 (zA2 zB2 zA7))) zA7))) (zE6 (f := 422) h422 (zA2 (zA3 0) (zA2 zB2 zA7))) zC1) zA7) (gm_list F.slot_list_append) _)) (zA1 (zD4 (zA3 3)) zA6)))))) ?_ (fun pm cd => len3 (fun _ _ _ => by rfl))
  rintro xs H Q wf ⟨ta, ca, lm, b, m0, rfl, T, hlm, d1, d2, hm0, q⟩
  refine ⟨rfl, ?_⟩
  show wBody wb443 _ H _
  simp! only [↓wb443_ap]
  refine ⟨by lia, fun n hn => ⟨by lia, fun z hz => ?_⟩⟩
  obtain ⟨x, i, kk, t⟩ := T
  have F : Far H ta ca lm n := ⟨d1, d2, hn, (AH.ne_of t.t hn).symm, (AH.ne_of t.c hn).symm, (AH.ne_of hlm hn).symm⟩
  have l1 : Le H (H.set n (.list [])) := (Le.refl H).set hn
  have W0 : WS' H (H.set n (.list [])) ta ca lm n b m0 [] := ⟨⟨x, i, kk, l1 _ _ t.t, l1 _ _ t.c, t.ne, t.i0, t.i1, t.few⟩, l1 _ _ hlm, AH.set_self .., fun x o e _ _ _ => l1 _ _ e, wf.new hn⟩
  have W1 := W0.new hz []
  have len2 : ∀ {H' : AH} {m} {is : List zC7}, m ≤ 100 → WS' H H' ta ca lm n b m is → (mets b m).length ≤ 1000000 := fun h W => by rw [mets_len]; lia
  have main : ∀ H1 is m1, WS' H H1 ta ca lm n b m1 is → (∀ k, ItsS k is ⟨b, b + m0, 1, false⟩ ⟨b, b + m1, 1, false⟩) → 1 ≤ m1 → m1 ≤ m0 + 1 → is.length ≤ 1 →
      zB3 (wFor (zD3 wRange (zA4 (zD3 sp422 (zA4 (zB1 0) (zA4 (zA5 (V.int 6)) zB5))) zB5)) (zG2 5) lb443_1) (zB3 (zG1 (zD2 zE1 (zB1 3) zD1 (zA4 (zC3 (zF5 (zA4 (wTup (zA4 (zA5 (V.str (Str.ofString "call"))) (zA4 (zA5 (V.int 9)) (zA4 (zA5 (V.int 1)) zB5)))) (zA4 (wTup (zA4 (zA5 (V.str (Str.ofString "execute"))) (zA4 (zA5 (V.int 9)) zB5))) zB5))) (zD3 sp422 (zA4 (zB1 0) (zA4 (zA5 (V.int 2)) zB5))) zD5) zB5))) (zB3 (wRet (zB1 3)) zB6))
        [some (.ref ta), some (.int b), some (.ref lm), some (.ref n), some (.int 1), none, none, none, none] H1 (fun f H' => match f with
        | .ret x => ∃ H'', Sub H'' H' ∧ Q x H''
        | .next _ => ∃ H'', Sub H'' H' ∧ Q .none H''
        | _ => False) := by
    intro H1 is m1 W1 S1 a1 a2 a3
    simp! only [↓wFor]
    refine W1.digit F (by lia) (by lia) fun d6 H2 v0 v1 W2 _ => ?_
    intro r hr
    have W3 := W2.ext ((Le.refl H2).set (o := .rng 0 d6) hr) (W2.wf.new hr)
    refine ⟨.rng 0 d6, .rng (AH.set_self ..), ⟨by lia, by lia⟩, ?_⟩
    have hil : ((.rng 0 d6 : Src)).items.length + 0 ≤ 5 := by
      show ((List.range (d6 - 0).toNat).map _).length + 0 ≤ 5
      simp; lia
    refine str_loop (m0 := m0) F (.rng 0 d6) ⟨_, _, rfl⟩ _ (fun H4 is4 m4 spot l W4 S4 b1 b1' b2 => ?_) _ 0 _ is m1 1 none none none none hil W3 S1 a1 (by lia) hm0 (by lia) (by lia) (by lia)
    simp! only [↓ok_list W4.code]
    refine ⟨by lia, by lia, by lia, fun y hy => ?_⟩
    have W5 := W4.new hy [(zC7.row .call).v, (zC7.row .exe).v]
    refine W5.digit F (by lia) (by lia) fun v H6 w0 w1 W6 k6 => ?_
    obtain ⟨tx, ti, tk, tt⟩ := W4.tape
    have yt : y ≠ ta := (AH.ne_of tt.t hy).symm
    have yc : y ≠ ca := (AH.ne_of tt.c hy).symm
    have hy6 : H6 y = some (.list [(zC7.row .call).v, (zC7.row .exe).v]) := (k6 y yt yc).trans (AH.set_self ..)
    have last : ∀ (i : zC7), i.calls = true → i.rol = [] → zD1 [.ref n, i.row.v] H6 (fun x H' => match x with
        | .none => ∃ H'', Sub H'' H' ∧ Q (.ref n) H''
        | .int _ => ∃ H'', Sub H'' H' ∧ Q (.ref n) H''
        | _ => False) := fun i hi hr => by
      rw [zH3 W6.code (by simp [rowsV]; lia)]
      have W7 := W6.app F [i] (xs := rowsV is4 ++ [i.row.v]) rfl
      refine zB7 W7.wf (q _ n _ m4 W7 F (fun k => (S4 k).append ?_) b1 b1' (by simp; lia) ⟨i, by simp, hi⟩)
      exact ItsS.one ⟨fun _ => rfl, b + m4, spot, by rw [hr]; rfl, by simp [G.next, hi]⟩
    have hv : v = 0 ∨ v = 1 := by lia
    rcases hv with h | h
    · subst h
      have s0 : ∀ {Q : V → AH → Prop}, zD5 (.ref y) (.int 0) H6 Q = Q _ H6 := sub_list (i := 0) hy6 rfl (by lia)
      simp! only [↓s0]
      exact last .call rfl rfl
    · subst h
      have s1 : ∀ {Q : V → AH → Prop}, zD5 (.ref y) (.int 1) H6 Q = Q _ H6 := sub_list (i := 1) hy6 rfl (by lia)
      simp! only [↓s1]
      exact last .exe rfl rfl
  have hz0 : ((H.set n (.list [])).set z (.list [])) z = some (.list []) := AH.set_self ..
  by_cases e0 : m0 = 0
  · subst e0
    simp! only [↓eq_nil0 W1.met hz0 rfl, ↓ok_list W1.met]
    refine ⟨by lia, ?_⟩
    have e1 : (Op.t b).v = (Op.t (b + ((0 : Nat) : Int))).v := by simp
    have W2 := W1.grow F (xs := mets b 0 ++ [(Op.t b).v]) (by rw [e1])
    show zD1 [.ref lm, (Op.t b).v] _ _
    rw [zH3 W1.met (len2 (by lia) W1)]
    have s0 : ∀ {Q : V → AH → Prop}, zD5 (.ref lm) (.int 0) _ Q = Q _ _ := sub_list (i := 0) W2.met (mets_get b 1 0 (by lia)) (by lia)
    simp! only [↓ok_list W2.code, ↓s0]
    refine ⟨by lia, ?_⟩
    show zD1 [.ref n, _] _ _
    rw [zH3 W2.code (by simp [rowsV])]
    have W3 := W2.app F [.void (b + ((0 : Nat) : Int))] (xs := rowsV [] ++ [Row.v (zC7.row (.void (b + ((0 : Nat) : Int))))]) rfl
    refine main _ _ 1 W3 (fun k => ?_) (by lia) (by lia) (by simp)
    exact ItsS.one ⟨fun _ => rfl, b + 1, 1, ⟨_, by simpa using OpS.wt, rfl⟩, rfl⟩
  · simp! only [↓eq_nil1 W1.met hz0 e0]
    exact main _ [] m0 W1 (fun k => rfl) (by lia) (by lia) (by simp)
end
end
section
inductive CodeOk (k : Nat) (is : List zC7) : Prop
  | of : ∀ is1 is2 m g, (is = is1 ++ is2) → (ItsS k is1 ⟨0, 0, 1, true⟩ ⟨0, m, 1, true⟩) → (ItsS k is2 ⟨0, m, 1, false⟩ g) → (g.spot = 1) → (g.gets = false) → (1 ≤ g.fresh) → (g.fresh ≤ 40) → (is.length ≤ 40) → (k ≤ 3) → ((∃ i ∈ is, zC7.calls i = true)) → CodeOk k is
noncomputable def selfR (p : Row) : Prop := isCopyR p = true ∧ opAt p.ps 0 = opAt p.ps 1
inductive Kept : List Row → List Row → Prop where
  | nil : Kept [] []
  | keep {p ps qs} : Kept ps qs → Kept (p :: ps) (p :: qs)
  | drop {p ps qs} : selfR p → Kept ps qs → Kept (p :: ps) qs
theorem Kept.append : ∀ {a b a' b' : List Row}, Kept a b → Kept a' b' → Kept (a ++ a') (b ++ b') := by
  intro _ _ _ _ zz h'
  induction zz with
  | nil => exact h'
  | keep _ ih => exact .keep ih
  | drop s _ ih => exact .drop s ih
theorem Kept.len : ∀ {a b : List Row}, Kept a b → b.length ≤ a.length := by
  intro _ _ zz
  induction zz with
  | nil => exact Nat.le_refl _
  | keep _ ih => exact Nat.succ_le_succ ih
  | drop _ _ ih => exact Nat.le_succ_of_le ih
theorem Kept.mem : ∀ {a b : List Row}, Kept a b → ∀ p ∈ b, p ∈ a := by
  intro _ _ zz
  induction zz with
  | nil => exact fun _ h => h
  | keep _ ih =>
    intro p hp
    rcases List.mem_cons.mp hp with rfl | hp
    · exact .head _
    · exact .tail _ (ih p hp)
  | drop _ _ ih => exact fun p hp => .tail _ (ih p hp)
inductive scrAt (c : Cx) (ls : Addr) (xs : List V) : Prop
  | of : ∀ o vs n, (c.B.get? ls = some o) → (o.cls = .type "list") → (o.data = .seq vs n) → (ReL c.B xs vs.toList) → scrAt c ls xs
noncomputable def wCut (ls : Addr) (xs : List V) (x y : V) : Wp V := fun H Q => x = .ref ls ∧ ∃ i : Nat, y = .int (i : Int) ∧ xs.length ≤ 1000000 ∧ ∀ n, H n = none → Q (.ref n) (H.set n (.list (xs.take i)))
section
variable {c : Cx} {d : Nat} {qn : Str} {sc : Scope} {nm : List Str}
theorem re_cut {ls : Addr} {xs : List V} (hB : scrAt c ls xs) {value e p pos} {w1 w2 : Ls → Wp V} (h1 : RE c d qn sc nm value w1) (h2 : RE c d qn sc nm e w2) (ht : autoParam (∀ o r, letTemporaryGo value o r = pure ()) auI) :
    RE c d qn sc nm (.Subscript value (.Slice none (some e) none p) pos) (zC3 w1 w2 (wCut ls xs)) := by
  intro A rm L a cd G l H s Q S w
  refine wpAny_Subscript_list_slice (wpAny_mono (h1 A rm L a cd G l H s _ S w) (fun u s₁ hz2 => ?_) fun _ _ z => z) ht
  obtain ⟨x, H₁, r1, S1, k1, q1⟩ := hz2
  refine wpAny_pure (wpAny_mono (h2 A rm L a cd G l H₁ s₁ _ S1 q1) (fun v s₂ hz2 => ?_) fun _ _ z => z)
  obtain ⟨y, H₂, r2, S2, k2, q2⟩ := hz2
  obtain ⟨rfl, j, rfl, hb, q⟩ := q2
  obtain ⟨t, rfl⟩ := r2
  rw [show u = _ from r1]
  obtain ⟨o, vs, n, g0, gc, gd, rl0⟩ := hB
  have g := S2.hs.keep _ _ g0
  have rl := rl0.tk (Tk.of_keep S2.hs.keep)
  have hl := rl.length
  simp only [Array.length_toList] at hl
  refine ⟨_, vs, none, some (j : Int), rfl, ⟨o, g, gc, n, gd⟩, line_big (by lia), .none, .int (j : Int) t, ?_⟩
  rw [slicePick_upto']
  exact (S2.newList2 (xs := xs.take j) _ (by simp only [List.toList_toArray]; exact rl.take j) q).trans (k1.trans k2)
end
noncomputable abbrev sp457 (ls : Addr) (cells : List Int) : List V → Wp V := fun xs H Q => xs = [.ref ls] ∧ cells.length ≤ 63 ∧ H 284 = some (.tab true) ∧ ∀ H', H' 284 = some (.tab false) → Q (.bool true) H'
structure LS (H0 H : AH) (ta ca lm cd : Addr) (b : Int) (m : Nat) (is : List zC7) : Prop where
  le : Le H0 H
  wf : WF H
  tape : Tape H ta ca
  met : H lm = some (.list (mets b m))
  code : H cd = some (.list (rowsV is))
  t0 : H0 ta = none
  c0 : H0 ca = none
  l0 : H0 lm = none
  d0 : H0 cd = none
  lt : lm ≠ ta
  lc : lm ≠ ca
  dt : cd ≠ ta
  dc : cd ≠ ca
  dl : cd ≠ lm
section
variable {H0 H : AH} {ta ca lm cd : Addr} {b : Int} {m : Nat} {is : List zC7}
theorem LS.ext (S : LS H0 H ta ca lm cd b m is) {H' : AH} (l : Le H H') (wf : WF H') : LS H0 H' ta ca lm cd b m is := by
  obtain ⟨x, i, k, t⟩ := S.tape
  exact ⟨S.le.trans l, wf, ⟨x, i, k, l _ _ t.t, l _ _ t.c, t.ne, t.i0, t.i1, t.few⟩, l _ _ S.met, l _ _ S.code, S.t0, S.c0, S.l0, S.d0, S.lt, S.lc, S.dt, S.dc, S.dl⟩
theorem LS.put (S : LS H0 H ta ca lm cd b m is) {a : Addr} {xs ys : List V} (h : H a = some (.list xs)) (h0 : H0 a = none) (n1 : a ≠ ta) (n2 : a ≠ ca) (n3 : a ≠ lm) (n4 : a ≠ cd) : LS H0 (H.set a (.list ys)) ta ca lm cd b m is :=
  ⟨S.le.set h0, S.wf.upd h, S.tape.keep (AH.set_ne _ _ n1.symm) (AH.set_ne _ _ n2.symm), by rw [AH.set_ne _ _ n3.symm]; exact S.met, by rw [AH.set_ne _ _ n4.symm]; exact S.code, S.t0, S.c0, S.l0, S.d0, S.lt, S.lc, S.dt, S.dc, S.dl⟩
theorem LS.digit (S : LS H0 H ta ca lm cd b m is) {lim : Int} (h1 : 0 < lim) (h2 : lim < 1000) {Q : V → AH → Prop} (q : ∀ v H', 0 ≤ v → v < lim → LS H0 H' ta ca lm cd b m is → (∀ x, x ≠ ta → x ≠ ca → H' x = H x) → Q (.int v) H') : sp422 [.ref ta, .int lim] H Q :=
  ⟨ta, ca, lim, rfl, S.tape, h1, h2, fun v H' v0 v1 T k wf => q v H' v0 v1 ⟨fun x o e => (k x (fun z => by rw [z, S.t0] at e; injection e) (fun z => by rw [z, S.c0] at e; injection e)).trans (S.le x o e), wf, T, (k _ S.lt S.lc).trans S.met, (k _ S.dt S.dc).trans S.code, S.t0, S.c0, S.l0, S.d0, S.lt, S.lc, S.dt, S.dc, S.dl⟩ k⟩
end
noncomputable def lb457_1 : Ls → Wp Fl := (zB3 (zG3 (wOrB (wNotB (zB4 (zD3 sp450 (zA4 (zB1 10) zB5)))) (wOrB (zB4 (zC3 (zC3 (zB1 10) (zA5 (V.int 1)) zD5) (zC3 (zB1 10) (zA5 (V.int 2)) zD5) wNe)) (wTrue false))) (zB3 (zG1 (zD2 zE1 (zB1 8) zD1 (zA4 (zB1 10) zB5))) (zB3 (zG1 (zD2 zE1 (zB1 9) zD1 (zA4 (zB1 10) zB5))) zB6)) (zB3 (zG3 (zB4 (zC3 (zD3 sp422 (zA4 (zB1 1) (zA4 (zA5 (V.int 2)) zB5))) (zA5 (V.int 1)) wEq)) (zB3 (zG1 (zD2 zE1 (zB1 8) zD1 (zA4 (zB1 10) zB5))) zB6) zB6) zB6)) zB6)
noncomputable def lb457_2 : Ls → Wp Fl := (zB3 (zG1 (zD2 zE1 (zB1 4) wExtend (zA4 (zD3 sp443 (zA4 (zB1 1) (zA4 (zB1 5) (zA4 (zB1 3) zB5)))) zB5))) (zB3 (wAug 5 (zD3 wLen (zA4 (zB1 3) zB5))) (zB3 (zG7 (zF5 zB5) 3) zB6)))
noncomputable def wb457 (c0 : Addr) (x0 : List V) : Ls → Wp Fl := (zB3 (zG7 (zF5 (zA4 (zC3 (zB1 0) (zA5 (V.int 60)) (wCut c0 x0)) (zA4 (zA5 (V.int 0)) (zA4 (zA5 (V.int 0)) zB5)))) 1) (zB3 (zG7 (zD3 sp422 (zA4 (zB1 1) (zA4 (zA5 (V.int 4)) zB5))) 2) (zB3 (zG7 (zF5 zB5) 3) (zB3 (zG7 (zD3 sp429 (zA4 (zB1 1) (zA4 (zB1 2) (zA4 (zB1 3) zB5)))) 4) (zB3 (zG7 (zA5 (V.int 0)) 5) (zB3 (wFor (zD3 wRange (zA4 (zC3 (zA5 (V.int 1)) (zD3 sp422 (zA4 (zB1 1) (zA4 (zA5 (V.int 2)) zB5))) wAdd) zB5)) (zG2 6) lb457_2) (zB3 (zG7 (zD3 sp303 (zA4 (wNew 154 sp81 zB5) (zA4 (zB1 4) (zA4 (zB1 2) (zA4 (zA5 (V.int 60)) zB5))))) 7) (zB3 (zG7 (zF5 zB5) 8) (zB3 (zG7 (zF5 zB5) 9) (zB3 (wFor (zB1 7) (zG2 10) lb457_1) (zB3 (zG3 (wOrB (wNotB (zB4 (zD3 sp415 (zA4 (zB1 4) (zA4 (zB1 8) (zA4 (zB1 2) zB5)))))) (wOrB (wNotB (zB4 (zD3 sp415 (zA4 (zB1 4) (zA4 (zB1 9) (zA4 (zB1 2) zB5)))))) (wTrue false))) (zB3 (wRet (zA5 (V.bool false))) zB6) zB6) (zB3 (zG7 (zC3 (zD3 sp422 (zA4 (zB1 1) (zA4 (zA5 (V.int 30)) zB5))) (zD3 wLen (zA4 (zB1 8) zB5)) wMod) 11) (zB3 (zG3 (zB4 (zD3 sp450 (zA4 (zC3 (zB1 8) (zB1 11) zD5) zB5))) (zB3 (wRet (zA5 (V.bool true))) zB6) zB6) (zB3 (wRet (wOne (zD3 sp415 (zA4 (zB1 4) (zA4 (zC3 (zC3 (zB1 8) (zB1 11) wUpto) (zC3 (zB1 8) (zC3 (zB1 11) (zA5 (V.int 1)) wAdd) wFrom) wAdd) (zA4 (zB1 2) zB5)))) wNot)) zB6))))))))))))))
theorem lb457_1_ap {l : Ls} {H : AH} {Q : Fl → AH → Prop} : lb457_1 l H Q = (zB3 (zG3 (wOrB (wNotB (zB4 (zD3 sp450 (zA4 (zB1 10) zB5)))) (wOrB (zB4 (zC3 (zC3 (zB1 10) (zA5 (V.int 1)) zD5) (zC3 (zB1 10) (zA5 (V.int 2)) zD5) wNe)) (wTrue false))) (zB3 (zG1 (zD2 zE1 (zB1 8) zD1 (zA4 (zB1 10) zB5))) (zB3 (zG1 (zD2 zE1 (zB1 9) zD1 (zA4 (zB1 10) zB5))) zB6)) (zB3 (zG3 (zB4 (zC3 (zD3 sp422 (zA4 (zB1 1) (zA4 (zA5 (V.int 2)) zB5))) (zA5 (V.int 1)) wEq)) (zB3 (zG1 (zD2 zE1 (zB1 8) zD1 (zA4 (zB1 10) zB5))) zB6) zB6) zB6)) zB6) l H Q := rfl
theorem lb457_2_ap {l : Ls} {H : AH} {Q : Fl → AH → Prop} : lb457_2 l H Q = (zB3 (zG1 (zD2 zE1 (zB1 4) wExtend (zA4 (zD3 sp443 (zA4 (zB1 1) (zA4 (zB1 5) (zA4 (zB1 3) zB5)))) zB5))) (zB3 (wAug 5 (zD3 wLen (zA4 (zB1 3) zB5))) (zB3 (zG7 (zF5 zB5) 3) zB6))) l H Q := rfl
theorem wb457_ap {c0 : Addr} {x0 : List V} {l : Ls} {H : AH} {Q : Fl → AH → Prop} : wb457 c0 x0 l H Q = (zB3 (zG7 (zF5 (zA4 (zC3 (zB1 0) (zA5 (V.int 60)) (wCut c0 x0)) (zA4 (zA5 (V.int 0)) (zA4 (zA5 (V.int 0)) zB5)))) 1) (zB3 (zG7 (zD3 sp422 (zA4 (zB1 1) (zA4 (zA5 (V.int 4)) zB5))) 2) (zB3 (zG7 (zF5 zB5) 3) (zB3 (zG7 (zD3 sp429 (zA4 (zB1 1) (zA4 (zB1 2) (zA4 (zB1 3) zB5)))) 4) (zB3 (zG7 (zA5 (V.int 0)) 5) (zB3 (wFor (zD3 wRange (zA4 (zC3 (zA5 (V.int 1)) (zD3 sp422 (zA4 (zB1 1) (zA4 (zA5 (V.int 2)) zB5))) wAdd) zB5)) (zG2 6) lb457_2) (zB3 (zG7 (zD3 sp303 (zA4 (wNew 154 sp81 zB5) (zA4 (zB1 4) (zA4 (zB1 2) (zA4 (zA5 (V.int 60)) zB5))))) 7) (zB3 (zG7 (zF5 zB5) 8) (zB3 (zG7 (zF5 zB5) 9) (zB3 (wFor (zB1 7) (zG2 10) lb457_1) (zB3 (zG3 (wOrB (wNotB (zB4 (zD3 sp415 (zA4 (zB1 4) (zA4 (zB1 8) (zA4 (zB1 2) zB5)))))) (wOrB (wNotB (zB4 (zD3 sp415 (zA4 (zB1 4) (zA4 (zB1 9) (zA4 (zB1 2) zB5)))))) (wTrue false))) (zB3 (wRet (zA5 (V.bool false))) zB6) zB6) (zB3 (zG7 (zC3 (zD3 sp422 (zA4 (zB1 1) (zA4 (zA5 (V.int 30)) zB5))) (zD3 wLen (zA4 (zB1 8) zB5)) wMod) 11) (zB3 (zG3 (zB4 (zD3 sp450 (zA4 (zC3 (zB1 8) (zB1 11) zD5) zB5))) (zB3 (wRet (zA5 (V.bool true))) zB6) zB6) (zB3 (wRet (wOne (zD3 sp415 (zA4 (zB1 4) (zA4 (zC3 (zC3 (zB1 8) (zB1 11) wUpto) (zC3 (zB1 8) (zC3 (zB1 11) (zA5 (V.int 1)) wAdd) wFrom) wAdd) (zA4 (zB1 2) zB5)))) wNot)) zB6)))))))))))))) l H Q := rfl
theorem lap_loop {H0 : AH} {ta ca cd : Addr} {x0 : V} {k m1 : Nat} (hm1 : m1 ≤ 3) (is1 : List zC7) (h1 : is1.length ≤ 6) (src : Src) (hs : ∃ lo hi, src = .rng lo hi) (K : Fl → AH → Prop)
    (q : ∀ H' lm b x6 is2, LS H0 H' ta ca lm cd b 0 (is1 ++ is2) → (∀ k, ItsS k is2 ⟨0, m1, 1, false⟩ ⟨b, b, 1, false⟩) → 1 ≤ b → b ≤ 40 → is2.length ≤ 24 → (∃ i ∈ is2, zC7.calls i = true) → K (.next [some x0, some (.ref ta), some (.int k), some (.ref lm), some (.ref cd), some (.int b), x6, none, none, none, none, none]) H') :
    ∀ (vs : List V) (i : Nat) (H : AH) (lm : Addr) (b : Int) (m : Nat) (is2 : List zC7) (x6 : Option V), vs.length + i ≤ 2 → LS H0 H ta ca lm cd b m (is1 ++ is2) → (∀ k, ItsS k is2 ⟨0, m1, 1, false⟩ ⟨b, b + m, 1, false⟩) → m ≤ 3 → b ≤ 9 * i → is2.length ≤ 12 * i → (i ≠ 0 → m = 0 ∧ 1 ≤ b ∧ ∃ i ∈ is2, zC7.calls i = true) → 0 ≤ b → (i = 0 → vs ≠ []) →
    wLoop src (zG2 6) lb457_2 vs [some x0, some (.ref ta), some (.int k), some (.ref lm), some (.ref cd), some (.int b), x6, none, none, none, none, none] H K := by
  intro zz
  induction zz with
  | nil =>
    intro i H lm b m is2 x6 hv S I hm hb hl hc hb0 hne
    refine zC5 fun _ hk => ?_
    have i0 : i ≠ 0 := fun h => hne h rfl
    obtain ⟨rfl, b1, c⟩ := hc i0
    refine hk ?_
    simp at hv
    exact q H lm b _ is2 S (fun k => by simpa using I k) b1 (by lia) (by lia) c
  | cons v vs ih =>
    intro i H lm b m is2 x6 hv S I hm hb hl hc hb0 hne
    simp only [List.length_cons] at hv
    simp only [lp_cons]
    simp! only [↓lb457_2_ap, ↓ok_list S.code]
    refine ⟨ta, ca, lm, b, m, rfl, S.tape, S.met, S.lt, S.lc, by lia, fun H1 n is' m' W F I' hm' hm1' hl' hc' => ?_⟩
    have code1 := W.keep _ _ S.code S.dt S.dc S.dl
    show wExtend [.ref cd, .ref n] _ _
    rw [ext_list code1 W.code (by simp [rowsV]; lia)]
    have e1 : rowsV (is1 ++ is2) ++ rowsV is' = rowsV (is1 ++ (is2 ++ is')) := by simp [rowsV]
    simp only [e1]
    have wf2 : WF (H1.set cd (.list (rowsV (is1 ++ (is2 ++ is'))))) := W.wf.upd code1
    have met2 : (H1.set cd (.list (rowsV (is1 ++ (is2 ++ is'))))) lm = some (.list (mets b m')) := by rw [AH.set_ne _ _ S.dl.symm]; exact W.met
    have tape2 : Tape (H1.set cd (.list (rowsV (is1 ++ (is2 ++ is'))))) ta ca := W.tape.keep (AH.set_ne _ _ S.dt.symm) (AH.set_ne _ _ S.dc.symm)
    have le2 : Le H0 (H1.set cd (.list (rowsV (is1 ++ (is2 ++ is'))))) := fun x o e => by
      rw [AH.set_ne _ _ (AH.ne_of e S.d0)]
      exact W.keep x o (S.le x o e) (AH.ne_of e S.t0) (AH.ne_of e S.c0) (AH.ne_of e S.l0)
    simp! only [↓len_list met2 (show (mets b m').length ≤ 1000000 by rw [mets_len]; lia), mets_len]
    refine ⟨by lia, fun lm' hlm' => ?_⟩
    have l3 : Le (H1.set cd (.list (rowsV (is1 ++ (is2 ++ is'))))) ((H1.set cd (.list (rowsV (is1 ++ (is2 ++ is'))))).set lm' (.list [])) := (Le.refl _).set hlm'
    obtain ⟨tx, ti, tk, tt⟩ := tape2
    have S' : LS H0 ((H1.set cd (.list (rowsV (is1 ++ (is2 ++ is'))))).set lm' (.list [])) ta ca lm' cd (b + m') 0 (is1 ++ (is2 ++ is')) :=
      ⟨le2.trans l3, wf2.new hlm', ⟨tx, ti, tk, l3 _ _ tt.t, l3 _ _ tt.c, tt.ne, tt.i0, tt.i1, tt.few⟩, AH.set_self .., l3 _ _ (AH.set_self ..), S.t0, S.c0, le2.none hlm', S.d0, (AH.ne_of tt.t hlm').symm, (AH.ne_of tt.c hlm').symm, S.dt, S.dc, AH.ne_of (AH.set_self ..) hlm'⟩
    refine ⟨by obtain ⟨lo, hi, rfl⟩ := hs; trivial, ?_⟩
    refine ih (i + 1) _ lm' (b + m') 0 (is2 ++ is') _ (by lia) S' (fun k => (I k).append (by simpa using I' k)) (by lia) (by lia) (by simp; lia) (fun _ => ⟨rfl, by lia, ?_⟩) (by lia) (by lia)
    obtain ⟨z, hz, hz'⟩ := hc'
    exact ⟨z, List.mem_append_right _ hz, hz'⟩
theorem kept_loop {H0 : AH} {ta ca lm cd rl kl bl : Addr} {b : Int} {is : List zC7} {x0 x2 x5 : V} {x6 x11 : Option V} {reals : List Row} (okR : ∀ p ∈ reals, Row.ok p) (hlen : reals.length ≤ 100) (src : Src) (hs : src = .list rl (reals.map Row.v))
    (r0 : rl ≠ ta ∧ rl ≠ ca ∧ rl ≠ kl ∧ rl ≠ bl) (k0 : H0 kl = none ∧ kl ≠ ta ∧ kl ≠ ca ∧ kl ≠ lm ∧ kl ≠ cd) (b0 : H0 bl = none ∧ bl ≠ ta ∧ bl ≠ ca ∧ bl ≠ lm ∧ bl ≠ cd) (kb : kl ≠ bl) (K : Fl → AH → Prop)
    (q : ∀ H' ks bs x, LS H0 H' ta ca lm cd b 0 is → H' kl = some (.list (ks.map Row.v)) → H' bl = some (.list (bs.map Row.v)) → Kept reals ks → Kept reals bs → K (.next [some x0, some (.ref ta), some x2, some (.ref lm), some (.ref cd), some x5, x6, some (.ref rl), some (.ref kl), some (.ref bl), x, x11]) H') :
    ∀ (ps done ks bs : List Row) (H : AH) (x : Option V), reals = done ++ ps → LS H0 H ta ca lm cd b 0 is → H rl = some (.list (reals.map Row.v)) → H kl = some (.list (ks.map Row.v)) → H bl = some (.list (bs.map Row.v)) → Kept done ks → Kept done bs →
    wLoop src (zG2 10) lb457_1 (ps.map Row.v) [some x0, some (.ref ta), some x2, some (.ref lm), some (.ref cd), some x5, x6, some (.ref rl), some (.ref kl), some (.ref bl), x, x11] H K := by
  intro zz
  induction zz with
  | nil =>
    intro done ks bs H x e S hr hk hb Kk Kb
    have : reals = done := by simpa using e
    rw [← this] at Kk Kb
    exact q H ks bs x S hk hb Kk Kb
  | cons p ps ih =>
    intro done ks bs H x e S hr hk hb Kk Kb
    have okp := okR p (by rw [e]; simp)
    have l1 := Kk.len
    have l2 := Kb.len
    have l3 : done.length ≤ 100 := by rw [e] at hlen; simp at hlen; lia
    have e' : reals = (done ++ [p]) ++ ps := by rw [e]; simp
    simp only [List.map_cons, lp_cons]
    have both : Still ((H.set kl (.list (ks.map Row.v ++ [p.v]))).set bl (.list (bs.map Row.v ++ [p.v]))) src ∧ wLoop src (zG2 10) lb457_1 (ps.map Row.v) [some x0, some (.ref ta), some x2, some (.ref lm), some (.ref cd), some x5, x6, some (.ref rl), some (.ref kl), some (.ref bl), some p.v, x11] ((H.set kl (.list (ks.map Row.v ++ [p.v]))).set bl (.list (bs.map Row.v ++ [p.v]))) K := by
      have S1 := S.put (ys := ks.map Row.v ++ [p.v]) hk k0.1 k0.2.1 k0.2.2.1 k0.2.2.2.1 k0.2.2.2.2
      have hb1 : (H.set kl (.list (ks.map Row.v ++ [p.v]))) bl = some (.list (bs.map Row.v)) := by rw [AH.set_ne _ _ kb.symm]; exact hb
      have S2 := S1.put (ys := bs.map Row.v ++ [p.v]) hb1 b0.1 b0.2.1 b0.2.2.1 b0.2.2.2.1 b0.2.2.2.2
      have hr2 : ((H.set kl (.list (ks.map Row.v ++ [p.v]))).set bl (.list (bs.map Row.v ++ [p.v]))) rl = some (.list (reals.map Row.v)) := by rw [AH.set_ne _ _ r0.2.2.2, AH.set_ne _ _ r0.2.2.1]; exact hr
      refine ⟨by subst hs; exact hr2, ih (done ++ [p]) (ks ++ [p]) (bs ++ [p]) _ _ e' S2 hr2 ?_ ?_ (Kk.append (.keep .nil)) (Kb.append (.keep .nil))⟩
      · rw [AH.set_ne _ _ kb, AH.set_self]; simp
      · rw [AH.set_self]; simp
    have hb1 : ∀ {zs : List V}, (H.set kl (.list zs)) bl = some (.list (bs.map Row.v)) := by intro zs; rw [AH.set_ne _ _ kb.symm]; exact hb
    have ll1 : (ks.map Row.v).length ≤ 1000000 := by simp; lia
    have ll2 : (bs.map Row.v).length ≤ 1000000 := by simp; lia
    cases hc : isCopyR p with
    | false =>
      simp! only [↓lb457_1_ap]
      refine ⟨p, rfl, okp, ?_⟩
      simp only [hc]
      simp! only [Bool.not_false, ↓ok_list hk, ↓zH3 hk ll1, ↓ok_list hb1, ↓zH3 hb1 ll2]
      exact both
    | true =>
      have hcc := hc
      simp only [isCopyR, Bool.and_eq_true, decide_eq_true_eq] at hcc
      have ops : (∃ o, p.ps[0]? = some (.op o)) ∧ ∃ o, p.ps[1]? = some (.op o) := by
        rcases hcc.1.1 with h | h
        · have hs := rs_gv
          rw [← h] at hs
          exact ⟨okp.ops (2, 0) (by rw [hs]; simp), okp.ops (1, 1) (by rw [hs]; simp)⟩
        · have hs := rs_pv
          rw [← h] at hs
          exact ⟨okp.ops (1, 0) (by rw [hs]; simp), okp.ops (2, 1) (by rw [hs]; simp)⟩
      obtain ⟨⟨o1, e1⟩, o2, e2⟩ := ops
      have w1 : ∀ {H Q}, zD5 p.v (.int 1) H Q = Q o1.v H := fun {H Q} => zG4 (by simp [e1, Pt.v])
      have w2 : ∀ {H Q}, zD5 p.v (.int 2) H Q = Q o2.v H := fun {H Q} => wSub_row2 (by simp [e2, Pt.v])
      have a1 : opAt p.ps 0 = o1 := by simp [opAt, e1]
      have a2 : opAt p.ps 1 = o2 := by simp [opAt, e2]
      simp! only [↓lb457_1_ap]
      refine ⟨p, rfl, okp, ?_⟩
      rw [hc]
      simp! only [Bool.not_true, ↓w1, ↓w2]
      simp only [wNe_op]
      by_cases ho : o1 = o2
      · have self : selfR p := ⟨hc, by simp only [a1, a2]; exact ho⟩
        simp only [ho, decide_true, Bool.not_true]
        refine S.digit (by lia) (by lia) fun v H1 v0 v1 S1 kp => ?_
        have hr1 := (kp rl r0.1 r0.2.1).trans hr
        have hk1 := (kp kl k0.2.1 k0.2.2.1).trans hk
        have hb1 := (kp bl b0.2.1 b0.2.2.1).trans hb
        by_cases h1 : v = 1
        · simp! only [↓eq_t h1, ↓ok_list hk1, ↓zH3 hk1 ll1]
          have S2 := S1.put (ys := ks.map Row.v ++ [p.v]) hk1 k0.1 k0.2.1 k0.2.2.1 k0.2.2.2.1 k0.2.2.2.2
          have hr2 : (H1.set kl (.list (ks.map Row.v ++ [p.v]))) rl = some (.list (reals.map Row.v)) := by rw [AH.set_ne _ _ r0.2.2.1]; exact hr1
          refine ⟨by subst hs; exact hr2, ih (done ++ [p]) (ks ++ [p]) bs _ _ e' S2 hr2 (by rw [AH.set_self]; simp) (by rw [AH.set_ne _ _ kb.symm]; exact hb1) (Kk.append (.keep .nil)) (by simpa using Kb.append (.drop self .nil))⟩
        · simp! only [↓eq_f h1]
          refine ⟨by cases hs; exact hr1, ih (done ++ [p]) ks bs _ _ e' S1 hr1 hk1 hb1 (by simpa using Kk.append (.drop self .nil)) (by simpa using Kb.append (.drop self .nil))⟩
      · simp! only [ho, decide_false, Bool.not_false, ↓ok_list hk, ↓zH3 hk ll1, ↓ok_list hb1, ↓zH3 hb1 ll2]
        exact both
end
section
structure Plain : Prop where
  pre : ∀ k is, CodeOk k is → AllocPre (is.map zC7.row) k
  yes : ∀ k is hm ks, CodeOk k is → AllocOk (ivals (is.map zC7.row) k) hm → Kept ((is.map zC7.row).map (zE3 hm)) ks → chk (is.map zC7.row) ks (initC k) = true
  some : ∀ k is hm ks, CodeOk k is → Kept ((is.map zC7.row).map (zE3 hm)) ks → ks ≠ []
  no : ∀ k is hm ks i p, CodeOk k is → Kept ((is.map zC7.row).map (zE3 hm)) ks → ks[i]? = Option.some p → isCopyR p = false → chk (is.map zC7.row) (ks.take i ++ ks.drop (i + 1)) (initC k) = false
theorem upto_list {H : AH} {a : Addr} {xs : List V} (h : H a = some (.list xs)) (hl : xs.length ≤ 1000000) {i : Nat} {Q : V → AH → Prop} : wUpto (.ref a) (.int (i : Int)) H Q = ∀ n, H n = none → Q (.ref n) (H.set n (.list (xs.take i))) := by
  dsimp only [wUpto]; simp only [h, Int.toNat_natCast]
  exact propext ⟨fun x => x.2, fun x => ⟨⟨by lia, hl⟩, x⟩⟩
theorem from_list {H : AH} {a : Addr} {xs : List V} (h : H a = some (.list xs)) (hl : xs.length ≤ 1000000) {i : Nat} {Q : V → AH → Prop} : wFrom (.ref a) (.int (i : Int)) H Q = ∀ n, H n = none → Q (.ref n) (H.set n (.list (xs.drop i))) := by
  dsimp only [wFrom]; simp only [h, Int.toNat_natCast]
  exact propext ⟨fun x => x.2, fun x => ⟨⟨by lia, hl⟩, x⟩⟩
theorem add_list' {H : AH} {a b : Addr} {xs ys : List V} (h : H a = some (.list xs)) (h' : H b = some (.list ys)) (hl : xs.length + ys.length ≤ 1000000) {Q : V → AH → Prop} : wAdd (.ref a) (.ref b) H Q = ∀ n, H n = none → Q (.ref n) (H.set n (.list (xs ++ ys))) := by
  dsimp only [wAdd]; simp only [h, h']
  exact propext ⟨fun x => x.2, fun x => ⟨hl, x⟩⟩
section
variable {c : Cx} (Fn : Fns c.K)
include Fn
theorem rf457 {ls : Addr} {cells : List Int} (hB : scrAt c ls (cells.map V.int)) (h289 : RF c 5 289 sp289) (P : Plain) : RF c 8 457 (sp457 ls cells) := by
  have h422 : RF c 7 422 sp422 := (rf422 Fn).mono (by lia)
  have h429 : RF c 7 429 sp429 := (rf429 Fn).mono (by lia)
  have h443 : RF c 7 443 sp443 := (rf443 Fn).mono (by lia)
  have h450 : RF c 7 450 sp450 := (rf450 Fn).mono (by lia)
  have h415 : RF c 7 415 sp415 := (rf415 Fn).mono (by lia)
  have h303 : RF c 7 303 sp303 := (rf303 Fn h289).mono (by lia)
  have h81 : RF c 6 81 sp81 := (rf81 Fn).mono (by lia)
  have hnd : ((["script"] : List Str) ++ (["tape", "arity", "met", "code", "begun", "lap", "real", "kept", "bare", "row", "at"] : List Str)).Nodup := by decide
  refine rf_of (ps := (["script"] : List Str)) (rest := (["tape", "arity", "met", "code", "begun", "lap", "real", "kept", "bare", "row", "at"] : List Str)) Fn.f457 (zA1 (zD6 1 (zE2 (zA2 (re_cut hB (zA3 0) zB2) (zA2 zB2 (zA2 zB2 zA7))))) (zA1 (zD6 2 (zE6 (f := 422) h422 (zA2 (zA3 1) (zA2 zB2 zA7)))) (zA1 (zD6 3 (zE2 zA7)) (zA1 (zD6 4 (zE6 (f := 429) h429 (zA2 (zA3 1) (zA2 (zA3 2) (zA2 (zA3 3) zA7))))) (zA1 (zD6 5 zB2) (zA1 (rs_for (zH2 _ rb_range (zA2 (re_bin zB2 (zE6 (f := 422) h422 (zA2 (zA3 1) (zA2 zB2 zA7))) rv_add) zA7)) (tg_name 6) (zA1 (zG6 (zD7 (zA3 4) rb_extend (zA2 (zE6 (f := 443) h443 (zA2 (zA3 1) (zA2 (zA3 5) (zA2 (zA3 3) zA7)))) zA7) (gm_list F.slot_list_extend) _)) (zA1 (rs_aug 5 (zH2 _ rb_len (zA2 (zA3 3) zA7))) (zA1 (zD6 3 (zE2 zA7)) zA6)))) (zA1 (zD6 7 (zE6 (f := 303) h303 (zA2 (re_new (C := 154) (f := 81) h81 zA7) (zA2 (zA3 4) (zA2 (zA3 2) (zA2 zB2 zA7)))))) (zA1 (zD6 8 (zE2 zA7)) (zA1 (zD6 9 (zE2 zA7)) (zA1 (rs_for (zA3 7) (tg_name 10) (zA1 (zE5 (zH4 (zH7 (rt_not (rt_of (zE6 (f := 450) h450 (zA2 (zA3 10) zA7)))) (zH7 (zC4 (zC2 (zA3 10) zB2 zC1) (zC2 (zA3 10) zB2 zC1) rv_ne) rts_nilO))) (zA1 (zG6 (zD7 (zA3 8) zF7 (zA2 (zA3 10) zA7) (gm_list F.slot_list_append) _)) (zA1 (zG6 (zD7 (zA3 9) zF7 (zA2 (zA3 10) zA7) (gm_list F.slot_list_append) _)) zA6)) (zA1 (zE5 (zC4 (zE6 (f := 422) h422 (zA2 (zA3 1) (zA2 zB2 zA7))) zB2 zE4) (zA1 (zG6 (zD7 (zA3 8) zF7 (zA2 (zA3 10) zA7) (gm_list F.slot_list_append) _)) zA6) zA6) zA6)) zA6)) (zA1 (zE5 (zH4 (zH7 (rt_not (rt_of (zE6 (f := 415) h415 (zA2 (zA3 4) (zA2 (zA3 8) (zA2 (zA3 2) zA7)))))) (zH7 (rt_not (rt_of (zE6 (f := 415) h415 (zA2 (zA3 4) (zA2 (zA3 9) (zA2 (zA3 2) zA7)))))) rts_nilO))) (zA1 (zD4 re_bool) zA6) zA6) (zA1 (zD6 11 (re_bin (zE6 (f := 422) h422 (zA2 (zA3 1) (zA2 zB2 zA7))) (zH2 _ rb_len (zA2 (zA3 8) zA7)) rv_mod)) (zA1 (zE5 (rt_of (zE6 (f := 450) h450 (zA2 (zC2 (zA3 8) (zA3 11) zC1) zA7))) (zA1 (zD4 re_bool) zA6) zA6) (zA1 (zD4 (re_un (zE6 (f := 415) h415 (zA2 (zA3 4) (zA2 (re_bin (re_upto (zA3 8) (zA3 11)) (re_from (zA3 8) (re_bin (zA3 11) zB2 rv_add)) rv_add) (zA2 (zA3 2) zA7)))) rv_not)) zA6)))))))))))))) ?_ (fun pm cd => len1 (fun _ => by rfl))
  rintro xs H Q wf ⟨rfl, hlen, htab, q⟩
  refine ⟨rfl, ?_⟩
  show wBody (wb457 ls (cells.map V.int)) _ H _
  have hl60 : (cells.map V.int).length ≤ 1000000 := by simp; lia
  simp! only [↓wb457_ap]
  refine ⟨rfl, 60, rfl, hl60, fun ca hca => ?_⟩
  simp! only []
  refine ⟨by lia, fun ta hta => ?_⟩
  have l1 : Le H (H.set ca (.list ((cells.map V.int).take 60))) := (Le.refl H).set hca
  have wf1 : WF (H.set ca (.list ((cells.map V.int).take 60))) := wf.new hca
  have l2 : Le (H.set ca (.list ((cells.map V.int).take 60))) ((H.set ca (.list ((cells.map V.int).take 60))).set ta (.list [.ref ca, .int 0, .int 0])) := (Le.refl _).set hta
  have wf2 : WF ((H.set ca (.list ((cells.map V.int).take 60))).set ta (.list [.ref ca, .int 0, .int 0])) := wf1.new hta
  have ca_ta : ca ≠ ta := AH.ne_of (AH.set_self H ca (.list ((cells.map V.int).take 60))) hta
  have T0 : Tape ((H.set ca (.list ((cells.map V.int).take 60))).set ta (.list [.ref ca, .int 0, .int 0])) ta ca :=
    ⟨cells.take 60, 0, 0, AH.set_self .., by rw [l2 _ _ (AH.set_self ..), List.map_take], ca_ta.symm, by lia, by lia, by simp; lia⟩
  have ta0 : H ta = none := l1.none hta
  refine ⟨ta, ca, 4, rfl, T0, by lia, by lia, fun v H3 v0 v1 T3 k3 wf3 => ?_⟩
  obtain ⟨k, rfl⟩ : ∃ k : Nat, v = k := ⟨v.toNat, by lia⟩
  simp! only []
  refine ⟨by lia, fun lm hlm => ?_⟩
  have le3 : Le H H3 := fun x o e => (k3 x (AH.ne_of e ta0) (AH.ne_of e hca)).trans ((l1.trans l2) x o e)
  have l4 : Le H3 (H3.set lm (.list [])) := (Le.refl H3).set hlm
  obtain ⟨tx, ti, tk, tt⟩ := T3
  have T4 : Tape (H3.set lm (.list [])) ta ca := ⟨tx, ti, tk, l4 _ _ tt.t, l4 _ _ tt.c, tt.ne, tt.i0, tt.i1, tt.few⟩
  have lm_ta : lm ≠ ta := (AH.ne_of tt.t hlm).symm
  have lm_ca : lm ≠ ca := (AH.ne_of tt.c hlm).symm
  refine ⟨ta, ca, k, lm, rfl, T4, AH.set_self .., lm_ta, lm_ca, by lia, fun H5 cd is1 m1 W F I1 hm1 hl1 => ?_⟩
  have S5 : LS H H5 ta ca lm cd 0 m1 is1 := ⟨fun x o e => W.keep x o (l4 x o (le3 x o e)) (AH.ne_of e ta0) (AH.ne_of e hca) (AH.ne_of e (le3.none hlm)), W.wf, W.tape, W.met, W.code, ta0, hca, le3.none hlm, (le3.trans l4).none F.nn, lm_ta, lm_ca, F.nt, F.nc, F.nl⟩
  simp! only [↓wFor]
  refine S5.digit (by lia) (by lia) fun v2 H6 v20 v21 S6 _ => ?_
  simp! only [↓add_int, ↓wRange_2]
  intro rg hrg
  have S7 := S6.ext ((Le.refl H6).set (o := .rng 0 (1 + v2)) hrg) (S6.wf.new hrg)
  refine ⟨.rng 0 (1 + v2), .rng (AH.set_self ..), ⟨by lia, by lia⟩, ?_⟩
  have ilen : ((.rng 0 (1 + v2) : Src)).items.length = (1 + v2).toNat := by
    show ((List.range (1 + v2 - 0).toNat).map _).length = _
    simp
  refine lap_loop (k := k) (m1 := m1) (by lia) is1 (by lia) (.rng 0 (1 + v2)) ⟨_, _, rfl⟩ _ (fun H8 lm8 b8 l8 is2 S8 I2 hb1 hb8 hl8 hc8 => ?_) _ 0 _ lm 0 m1 [] none (by rw [ilen]; lia) (by simpa using S7) (fun k => by show _ = _; simp) (by lia) (by simp) (by simp) (by simp) (by lia) (fun _ => ?_)
  rotate_left
  · intro h; rw [h] at ilen; simp at ilen; lia
  have code : CodeOk k (is1 ++ is2) := ⟨is1, is2, m1, ⟨b8, b8, 1, false⟩, rfl, I1, I2 k, rfl, rfl, hb1, hb8, by simp; lia, by lia, by obtain ⟨z, h1, h2⟩ := hc8; exact ⟨z, by simp [h1], h2⟩⟩
  simp! only [↓wNew]
  intro sa sd sne hsa hsd
  have wf9 := wf_inst S8.wf (C := 154) (fs := []) hsd hsa sne
  have le9 : Le H8 ((H8.set sd (.own sa)).set sa (.inst 154 sd [])) := new_keep hsd hsa
  refine ⟨sa, sd, rfl, AH.set_self .., by rw [AH.set_ne _ _ sne.symm, AH.set_self], fun H10 E10 => ⟨rfl, ?_⟩⟩
  have ff : foot ((H8.set sd (.own sa)).set sa (.inst 154 sd [])) sa = [sa, sd] := by unfold foot; rw [AH.set_self]; rfl
  have le10 : Le H8 H10 := fun b o e => E10.keep b o (le9 b o e) (by
    rw [ff]; simp only [List.mem_cons, List.not_mem_nil, or_false, not_or]
    exact ⟨AH.ne_of e hsa, AH.ne_of e hsd⟩)
  have S10 := S8.ext le10 E10.wf
  refine ⟨.ref sa, cd, k, (is1 ++ is2).map zC7.row, rfl, by rw [S10.code, rowsV_eq], P.pre k _ code, S10.le _ _ htab, fun H11 rl hm le11 wf11 hrl hreal aok => ?_⟩
  have htab10 := S10.le _ _ htab
  have nl : ∀ {b : Addr} {ys : List V}, H10 b = some (.list ys) → H10.del b = some (.list ys) := fun e => AH.del_some e (by intro _ q; cases q) htab10
  have S11 : LS H.del H11 ta ca lm8 cd b8 0 (is1 ++ is2) := by
    obtain ⟨tx, ti, tk, tt⟩ := S10.tape
    exact ⟨fun b o e => le11 b o (by
        by_cases nb : b = 284
        · rw [nb, AH.del_tab] at e ⊢; exact e
        · rw [AH.del_ne _ nb] at e ⊢; exact S10.le _ _ e), wf11, ⟨tx, ti, tk, le11 _ _ (nl tt.t), le11 _ _ (nl tt.c), tt.ne, tt.i0, tt.i1, tt.few⟩, le11 _ _ (nl S10.met), le11 _ _ (nl S10.code),
      H.del_none htab S10.t0, H.del_none htab S10.c0, H.del_none htab S10.l0, H.del_none htab S10.d0, S10.lt, S10.lc, S10.dt, S10.dc, S10.dl⟩
  simp! only []
  refine ⟨by lia, fun kl hkl => ⟨by lia, fun bl hbl => ?_⟩⟩
  have l12 : Le H11 (H11.set kl (.list [])) := (Le.refl H11).set hkl
  have S12 := S11.ext l12 (S11.wf.new hkl)
  have l13 : Le (H11.set kl (.list [])) ((H11.set kl (.list [])).set bl (.list [])) := (Le.refl _).set hbl
  have S13 := S12.ext l13 (S12.wf.new hbl)
  have hk13 := l13 _ _ (AH.set_self H11 kl (.list []))
  have hr13 := l13 _ _ (l12 _ _ hreal)
  obtain ⟨zx, zi, zk, zt⟩ := S11.tape
  obtain ⟨yx, yi, yk, yt⟩ := S12.tape
  obtain ⟨xx, xi, xk, xt⟩ := S10.tape
  try simp! only [↓wFor]
  refine ⟨.list rl (((((is1 ++ is2).map zC7.row).map (zE3 hm)).map Row.v)), .list (hr13), trivial, ?_⟩
  have okR : ∀ p ∈ ((is1 ++ is2).map zC7.row).map (zE3 hm), Row.ok p := fun p hp => by
    obtain ⟨r, hr, rfl⟩ := List.mem_map.mp hp
    obtain ⟨i, hi, rfl⟩ := List.mem_map.mp hr
    exact (zC7.ok i).real hm
  have okA : ∀ p ∈ (is1 ++ is2).map zC7.row, Row.ok p := fun p hp => by
    obtain ⟨i, hi, rfl⟩ := List.mem_map.mp hp
    exact zC7.ok i
  have rlen : (((is1 ++ is2).map zC7.row).map (zE3 hm)).length ≤ 100 := by simp; lia
  refine kept_loop (x0 := .ref ls) (x2 := .int k) (x11 := none) okR rlen (.list rl (((((is1 ++ is2).map zC7.row).map (zE3 hm)).map Row.v))) rfl
    ⟨(AH.ne_of (nl xt.t) hrl).symm, (AH.ne_of (nl xt.c) hrl).symm, AH.ne_of hreal hkl, AH.ne_of (l12 _ _ hreal) hbl⟩
    ⟨S11.le.none hkl, (AH.ne_of zt.t hkl).symm, (AH.ne_of zt.c hkl).symm, (AH.ne_of S11.met hkl).symm, (AH.ne_of S11.code hkl).symm⟩
    ⟨S12.le.none hbl, (AH.ne_of yt.t hbl).symm, (AH.ne_of yt.c hbl).symm, (AH.ne_of S12.met hbl).symm, (AH.ne_of S12.code hbl).symm⟩
    (AH.ne_of (AH.set_self H11 kl (.list [])) hbl) _ (fun H14 ks bs x S14 hk14 hb14 Kk Kb => ?_) _ [] [] [] _ none rfl S13 hr13 hk13 (AH.set_self ..) .nil .nil
  have klen := Kk.len
  have blen := Kb.len
  have code14 : H14 cd = some (.list (((is1 ++ is2).map zC7.row).map Row.v)) := by rw [S14.code, rowsV_eq]
  have alen : ((is1 ++ is2).map zC7.row).length ≤ 1000 := by simp; lia
  try simp! only []
  refine ⟨cd, kl, k, _, ks, rfl, code14, hk14, okA, fun p hp => okR p (Kk.mem p hp), alen, by lia, by lia, ?_⟩
  rw [P.yes k _ hm ks code aok Kk]
  simp! only [Bool.not_true]
  refine ⟨cd, bl, k, _, bs, rfl, code14, hb14, okA, fun p hp => okR p (Kb.mem p hp), alen, by lia, by lia, ?_⟩
  rw [P.yes k _ hm bs code aok Kb]
  simp! only [Bool.not_true]
  refine S14.digit (by lia) (by lia) fun v H15 w0 w1 S15 k15 => ?_
  have kl_ta : kl ≠ ta := (AH.ne_of zt.t hkl).symm
  have kl_ca : kl ≠ ca := (AH.ne_of zt.c hkl).symm
  have hk15 := (k15 kl kl_ta kl_ca).trans hk14
  have kpos : 0 < ks.length := by
    cases ks with
    | nil => exact absurd rfl (P.some k _ hm [] code Kk)
    | cons _ _ => simp
  have klv : (ks.map Row.v).length ≤ 1000000 := by simp; lia
  have mpos : (0 : Int) < ((ks.map Row.v).length : Int) := by simp; lia
  simp! only [↓len_list hk15 klv, ↓mod_int mpos]
  obtain ⟨g1, g2⟩ := fmod_lt' (i := v) mpos
  obtain ⟨i, hi⟩ : ∃ i : Nat, v.fmod ((ks.map Row.v).length : Int) = i := ⟨(v.fmod ((ks.map Row.v).length : Int)).toNat, by lia⟩
  rw [hi]
  have ilt : i < ks.length := by rw [hi] at g2; simp at g2; exact g2
  obtain ⟨p, hp⟩ : ∃ p, ks[i]? = some p := ⟨ks[i], by simp [ilt]⟩
  have hp' : (ks.map Row.v)[i]? = some p.v := by rw [List.getElem?_map, hp]; rfl
  simp! only [↓sub_list hk15 hp' (show i < 1000000 by lia)]
  refine ⟨p, rfl, okR p (Kk.mem p (List.mem_of_getElem? hp)), ?_⟩
  cases hc : isCopyR p with
  | true => exact zB7 S15.wf (q _ (S15.le _ _ H.del_tab))
  | false =>
    simp! only [↓upto_list hk15 klv]
    intro n1 hn1
    have l16 : Le H15 (H15.set n1 (.list ((ks.map Row.v).take i))) := (Le.refl H15).set hn1
    have S16 := S15.ext l16 (S15.wf.new hn1)
    have hk16 := l16 _ _ hk15
    simp! only [↓add_int]
    rw [show (V.int ((i : Int) + 1)) = V.int ((i + 1 : Nat) : Int) by simp]
    rw [from_list hk16 klv]
    intro n2 hn2
    have l17 : Le (H15.set n1 (.list ((ks.map Row.v).take i))) ((H15.set n1 (.list ((ks.map Row.v).take i))).set n2 (.list ((ks.map Row.v).drop (i + 1)))) := (Le.refl _).set hn2
    have S17 := S16.ext l17 (S16.wf.new hn2)
    have a17 := l17 _ _ (AH.set_self H15 n1 (.list ((ks.map Row.v).take i)))
    simp! only []
    rw [add_list' a17 (AH.set_self ..) (by simp; lia)]
    intro n3 hn3
    have S18 := S17.ext ((Le.refl _).set (o := .list ((ks.map Row.v).take i ++ (ks.map Row.v).drop (i + 1))) hn3) (S17.wf.new hn3)
    refine ⟨cd, n3, k, _, ks.take i ++ ks.drop (i + 1), rfl, by rw [S18.code, rowsV_eq], by rw [AH.set_self]; simp, okA, fun p hp => okR p (Kk.mem p ?_), alen, by simp; lia, by lia, ?_⟩
    · rcases List.mem_append.mp hp with h | h
      · exact List.mem_of_mem_take h
      · exact List.mem_of_mem_drop h
    · rw [P.no k _ hm ks i p code Kk hp hc]
      simp! only [Bool.not_false]
      exact zB7 S18.wf (q _ (S18.le _ _ H.del_tab))
end
end
section
noncomputable def KOk {α : Type} (n : Nat) (P : α → Prop) : KasT α → Prop
  | .ret a => P a
  | .ask i j k => i < n ∧ j < n ∧ ∀ b, KOk n P (k b)
theorem KOk.mono {α : Type} {n : Nat} {P P' : α → Prop} (h : ∀ a, P a → P' a) : ∀ {t : KasT α}, KOk n P t → KOk n P' t := by
  intro zz
  induction zz with
  | ret a => exact h a
  | ask i j k ih =>
    rintro ⟨a, b, c⟩
    exact ⟨a, b, fun q => ih q (c q)⟩
theorem KOk.bind {α β : Type} {n : Nat} {P : α → Prop} {P' : β → Prop} {f : α → KasT β} (h : ∀ a, P a → KOk n P' (f a)) : ∀ {t : KasT α}, KOk n P t → KOk n P' (t.bind f) := by
  intro zz
  induction zz with
  | ret a => exact h a
  | ask i j k ih =>
    rintro ⟨a, b, c⟩
    exact ⟨a, b, fun q => ih q (c q)⟩
theorem KOk.wp {α : Type} {n : Nat} {P : α → Prop} {cmp : Nat → Nat → (Bool → Shared → Prop) → Shared → Prop} {I : Shared → Prop} (hc : ∀ i j C s, i < n → j < n → I s → (∀ b s', I s' → C b s') → cmp i j C s) {Q : α → Shared → Prop} (hq : ∀ a s, P a → I s → Q a s) :
    ∀ {t : KasT α} {s : Shared}, KOk n P t → I s → t.kasWp cmp Q s := by
  intro zz
  induction zz with
  | ret a => exact hq a _
  | ask i j k ih =>
    rintro s ⟨a, b, c⟩ h
    exact hc i j _ s a b h fun q s' h' => ih q (c q) h'
noncomputable def Pm (n : Nat) (p : Array Nat) : Prop := p.toList.Perm (List.range n)
theorem Pm.lt {n : Nat} {p : Array Nat} (h : Pm n p) (hn : 0 < n) (i : Nat) : p.getD i 0 < n := by
  by_cases q : i < p.size
  · have e : p.getD i 0 = p[i] := by simp [Array.getD, q]
    rw [e]
    have : p[i] ∈ p.toList := by simp
    exact List.mem_range.mp (h.mem_iff.mp this)
  · have e : p.getD i 0 = 0 := by simp [Array.getD, q]
    rw [e]; exact hn
theorem Pm.rev {n : Nat} {p : Array Nat} (h : Pm n p) (i j : Nat) : Pm n (kas_rev p i j) := (Array.perm_iff_toList_perm.mp (mirror_perm p i j _)).trans h
theorem Pm.bub {n : Nat} {p : Array Nat} (h : Pm n p) (i j : Nat) : Pm n (bubble p i j) := (Array.perm_iff_toList_perm.mp (bubble_perm p i j)).trans h
section
variable {n : Nat} (hn : 0 < n)
include hn
theorem ok_asc {p : Array Nat} (h : Pm n p) : ∀ f m, KOk n (fun _ => True) (kas_asc p f m)
  | 0, m => trivial
  | f + 1, m => ⟨h.lt hn _, h.lt hn _, fun b => by
    cases b with
    | true => trivial
    | false => exact ok_asc h f (m + 1)⟩
theorem ok_desc : ∀ f (p : Array Nat) m q, Pm n p → KOk n (fun r : Array Nat × Nat × Nat => Pm n r.1) (kas_desc f p m q)
  | 0, p, m, q, h => h
  | f + 1, p, m, q, h => ⟨h.lt hn _, h.lt hn _, fun b => by
    cases b with
    | true =>
      show KOk n _ (if q > 0 then _ else _)
      split
      · exact ok_desc f _ _ _ (h.rev _ _)
      · exact ok_desc f _ _ _ h
    | false =>
      exact ⟨h.lt hn _, h.lt hn _, fun c => by
        cases c with
        | true => exact h
        | false => exact ok_desc f _ _ _ h⟩⟩
theorem ok_tail3 {p : Array Nat} (h : Pm n p) (m nrem : Nat) : KOk n (fun r : Nat × Array Nat => Pm n r.2) (kas_tail3 m nrem p) := by
  refine KOk.bind (P := fun _ => True) (fun a _ => ?_) (ok_asc hn (h.rev 0 m) _ _)
  exact h.rev 0 m
theorem ok_descPart {p : Array Nat} (h : Pm n p) (m nrem : Nat) : KOk n (fun r : Nat × Array Nat => Pm n r.2) (kas_descPart m nrem p) := by
  refine (ok_desc hn _ p _ _ h).bind fun r hr => ?_
  split
  · exact ok_tail3 hn (hr.rev _ _) _ _
  · exact ok_tail3 hn hr _ _
theorem ok_count {p : Array Nat} (h : Pm n p) (nrem : Nat) : KOk n (fun r : Nat × Array Nat => Pm n r.2) (kas_count nrem p) := by
  refine (ok_asc hn h _ _).bind fun m _ => ?_
  split
  · exact h
  · split
    · exact ⟨h.lt hn _, h.lt hn _, fun b => by
        cases b with
        | true => exact h
        | false => exact ok_descPart hn (h.rev _ _) _ _⟩
    · exact ok_descPart hn h _ _
theorem ok_place {p : Array Nat} (h : Pm n p) (k : Nat) : ∀ f l r, KOk n (fun _ => True) (kas_place p k f l r)
  | 0, l, r => trivial
  | f + 1, l, r => by
    dsimp only [kas_place]
    split
    · trivial
    · exact ⟨h.lt hn _, h.lt hn _, fun b => by
        cases b with
        | true => exact ok_place h k f _ _
        | false => exact ok_place h k f _ _⟩
theorem ok_bin : ∀ f (p : Array Nat) k, Pm n p → KOk n (fun q => Pm n q) (kas_bin f p k)
  | 0, p, k, h => h
  | f + 1, p, k, h => (ok_place hn h k k 0 k).bind fun l _ => ok_bin f _ _ (h.bub _ _)
theorem ok_sort : KOk n (fun q => Pm n q) (kas_sort n) := by
  refine (ok_count hn (show Pm n (List.toArray (List.range n)) by unfold Pm; simp) n).bind fun r hr => ?_
  split
  · exact ok_bin hn _ _ _ hr
  · exact hr
end
theorem pm_items {vs : List Value} {p : Array Nat} (h : Pm vs.length p) : (p.toList.map fun i => vs.getD i Value.none).Perm vs := by
  have h1 : (p.toList.map fun i => vs.getD i Value.none).Perm ((List.range vs.length).map fun i => vs.getD i Value.none) := h.map _
  have h2 : ((List.range vs.length).map fun i => vs.getD i Value.none) = vs := by
    apply List.ext_getElem
    · simp
    · intro i h1 h2
      simp at h1
      simp [h1]
  simp only [h2] at h1; exact h1
end
section
noncomputable def Gall (H : AH) (h : Heap) : Gd := fun a => match H a with
  | none => h.get? a
  | some _ => none
theorem Gall.of {H : AH} {h : Heap} {a : Addr} (e : H a = none) : Gall H h a = h.get? a := by unfold Gall; rw [e]
theorem HS.up {c : Cx} {G H s} (S : HS c G H s) {b : Addr} {o : Obj} (e : G b = some o) : Gall H s.heap b = some o := by
  have : H b = none := by
    cases q : H b with
    | none => rfl
    | some x => have := S.disj b (by rw [q]; simp); rw [this] at e; injection e
  rw [Gall.of this]; exact S.prot b o e
theorem HS.all {c : Cx} {G H s} (S : HS c G H s) : HS c (Gall H s.heap) H s where
  base := fun b o e => S.up (S.base b o e)
  prot := fun b o e => by
    cases q : H b with
    | none => rw [Gall.of q] at e; exact e
    | some x => unfold Gall at e; rw [q] at e; injection e
  obj := S.obj
  disj := fun a e => by
    cases q : H a with
    | none => exact absurd q e
    | some x => unfold Gall; rw [q]
  wf := S.wf
  ns := S.ns
theorem HS.less {c : Cx} {G G' H s} (S : HS c G' H s) (h : ∀ b o, G b = some o → G' b = some o) (hb : ∀ b o, c.B.get? b = some o → G b = some o) : HS c G H s where
  base := hb
  prot := fun b o e => S.prot b o (h b o e)
  obj := S.obj
  disj := fun a e => by
    cases q : G a with
    | none => rfl
    | some o => have := S.disj a e; rw [h a o q] at this; injection this
  wf := S.wf
  ns := S.ns
theorem HS.away {c : Cx} {G H s s'} (S : HS c G H s) {a : Addr} (k : Heap.SameBut a s.heap s'.heap) (hG : G a = none) (hH : H a = none) {ob : Obj} (e1 : s.heap.get? a = some ob) (nt : NT ob) : HS c G H s' ∧ Tk s.heap s'.heap := by
  have t := tk_sameBut k e1 nt
  refine ⟨⟨S.base, fun b x e => ?_, fun b x e => ?_, S.disj, S.wf, S.ns⟩, t⟩
  · exact zH1 k (fun q => by rw [q, hG] at e; injection e) (S.prot b x e)
  · refine (S.obj b x e).keep t (fun _ => zH1 k fun q => by rw [q, hH] at e; injection e) (fun C d fs z ob => zH1 k fun q => ?_)
    subst z
    have := S.wf b C d fs e
    rw [q, hH] at this; injection this
noncomputable abbrev kyV (p : Int × Int) : V := .tup [.int p.1, .int p.2]
theorem nt_list {xs : Array Value} {n : Nat} : NT (seqObj "list" xs n) := .of_cls (by simp [seqObj])
theorem kat_of {h : Heap} : ∀ {ps : List (Int × Int)} {ks : List Value}, ReL h (ps.map kyV) ks → ∃ fs, KatTups h ks fs ∧ fs.length = ps.length ∧ ∀ v ∈ fs, ∃ i t, v = .int i t := by
  intro zz
  induction zz with
  | nil =>
    intro _ e
    exact ⟨[], by rw [show _ = [] from e]; exact .nil, rfl, fun _ q => by cases q⟩
  | cons p ps ih =>
    intro _ hz1
    refine zC5 fun _ hk => ?_
    obtain ⟨v, vs', e, ⟨a, its, e2, ⟨o, ho, hc, n, hd⟩, r⟩, b⟩ := hz1
    refine hk ?_
    refine zC5 fun _ hk => ?_
    obtain ⟨fs, k1, k2, k3⟩ := ih b
    obtain ⟨v1, w1, q1, ⟨t, e3⟩, r1⟩ := r
    subst e e2 e3
    refine hk ?_
    refine ⟨.int p.1 t :: fs, KatTups.cons ho hc hd ?_ k1, by simp [k2], fun v q => ?_⟩
    · have : its.toList[0]? = some (.int p.1 t) := by rw [q1]; rfl
      simpa using this
    · rcases List.mem_cons.mp q with rfl | q
      · exact ⟨_, _, rfl⟩
      · exact k3 v q
section
variable {c : Cx} {A : Around} {G : Gd} {H : AH} {ps : List (Int × Int)} {ks vs : List Value} {a kS : Addr} {s : Shared}
theorem srt_cmp {p q : Int × Int} {x y : Value} {C : Bool → Shared → Prop} (hx : Re s.heap (kyV p) x) (hy : Re s.heap (kyV q) y) (h : ∀ b, C b s) : wpAny c.M A (keyLt' (tuples' true) x y) C (fun _ _ => False) s := by
  refine zC5 fun _ hk => ?_
  obtain ⟨ax, ix, rfl, ⟨ox, hox, _, nx, dx⟩, v1, w1, e1, ⟨t1, rfl⟩, v2, w2, e2, ⟨t2, rfl⟩, e3⟩ := hx
  obtain ⟨ay, iy, rfl, ⟨oy, hoy, _, ny, dy⟩, u1, z1, f1, ⟨t3, rfl⟩, u2, z2, f2, ⟨t4, rfl⟩, f3⟩ := hy
  have q1 : ix.toList = [.int p.1 t1, .int p.2 t2] := by simp only [e1, e2, show w2 = [] from e3]
  have q2 : iy.toList = [.int q.1 t3, .int q.2 t4] := by simp only [f1, f2, show z2 = [] from f3]
  refine hk ?_
  refine kat_lt hox dx hoy dy ?_
  simp only [q1, q2]
  refine kat_cons (wpAny_eqBool_int (kat_go (fun e => ?_) (fun e => ?_)))
  · refine kat_yes (kat_cons (wpAny_eqBool_int (kat_go (fun e => ?_) (fun e => ?_))))
    · exact kat_yes (kat_nil (h _))
    · refine kat_no (kat_one _ _ ?_)
      exact PyProof.Rows.lt_int (h _)
  · exact kat_no (oneLt_int (h _))
theorem sq_get {h : Heap} {xs : Array Value} {n : Nat} (g : Array Value → Array Value) (e : h.get? a = some (seqObj "list" xs n)) : ∃ m, (h.update a (Obj.mapSeq g)).get? a = some (seqObj "list" (g xs) m) := ⟨_, get?_update_seq e g⟩
structure Led (c : Cx) (G : Gd) (H : AH) (a kS : Addr) (ps : List (Int × Int)) (ks : List Value) (e1 : Nat) (s₀ s : Shared) : Prop where
  hs : HS c G H s
  ext : Ext s₀ s
  ha : s.heap.get? a = some (seqObj "list" #[] e1)
  hk : ∃ n, s.heap.get? kS = some (seqObj "list" ks.toArray n)
  ne : a ≠ kS
  ga : G a = none ∧ H a = none
  gk : G kS = none ∧ H kS = none
  keys : ReL s.heap (ps.map kyV) ks
theorem srt_tail {s₀ : Shared} {st : SortSt} {e1 : Nat} {out : List Value} (X : Led c G H a kS ps ks e1 s₀ s) (hk64 : ks.length < 64) (hout : (arrOf st).map (·.2) = out.toArray) (ho64 : out.length < 64) (hf : failedOf st = none) :
    wpAny c.M A (ksk_tail a false e1 (.ref kS) st) (fun fin s' => fin = .done (.ret .none) ∧ HS c G H s' ∧ Ext s₀ s' ∧ ∃ n, s'.heap.get? a = some (seqObj "list" out.toArray n)) NoE s := by
  obtain ⟨nk, hk⟩ := X.hk
  have s1 := Heap.SameBut.update s.heap kS (Obj.mapSeq fun _ => (#[] : Array Value))
  obtain ⟨S1, t1⟩ := X.hs.away (s' := { s with heap := s.heap.update kS (Obj.mapSeq fun _ => (#[] : Array Value)) }) s1 X.gk.1 X.gk.2 hk nt_list
  have ha1 : (s.heap.update kS (Obj.mapSeq fun _ => (#[] : Array Value))).get? a = some (seqObj "list" #[] e1) := zH1 s1 X.ne X.ha
  have s2 := Heap.SameBut.update (s.heap.update kS (Obj.mapSeq fun _ => (#[] : Array Value))) a (Obj.mapSeq fun _ => out.toArray)
  obtain ⟨S2, t2⟩ := S1.away (s' := { s with heap := (s.heap.update kS (Obj.mapSeq fun _ => (#[] : Array Value))).update a (Obj.mapSeq fun _ => out.toArray) }) s2 X.ga.1 X.ga.2 ha1 nt_list
  obtain ⟨m, hm⟩ := sq_get (fun _ => out.toArray) ha1
  unfold ksk_tail
  rw [hout]
  refine wpAny_bind (listUpdate_at hk rfl ?_ (by simp only [List.size_toArray, sizeLine_eq]; lia) (Nat.zero_le _))
  refine wpAny_bind (wpAny_letGo ?_)
  refine wpAny_bind (seqEpoch_at ha1 rfl ?_)
  refine wpAny_bind (listUpdate_at ha1 rfl ?_ (Nat.zero_le _) (by simp only [Bool.false_eq_true, if_false, List.size_toArray]; rw [sizeLine_eq]; lia))
  rw [hf]
  simp only [bne_self_eq_false, Bool.false_eq_true, if_false]
  exact wpAny_pure ⟨rfl, S2, X.ext.trans ⟨t1.trans t2, rfl, rfl⟩, m, hm⟩
theorem srt_end {s₀ : Shared} {e1 : Nat} (X : Led c G H a kS ps ks e1 s₀ s) (hl : ks.length = vs.length) (h1 : 1 ≤ vs.length) (h64 : vs.length < 64) :
    wpAny c.M A (ksk_end a false vs.toArray e1 (.ref kS) ks.toArray) (fun fin s' => fin = .done (.ret .none) ∧ HS c G H s' ∧ Ext s₀ s' ∧ ∃ n out, s'.heap.get? a = some (seqObj "list" (List.toArray out) n) ∧ out.Perm vs) NoE s := by
  dsimp only [ksk_end]
  try dsimp only
  by_cases h2 : vs.toArray.size < 2
  · rw [if_pos h2, if_pos h2]
    refine wpAny_bind (wpAny_pure ?_)
    refine wpAny_bind (wpAny_pure ?_)
    refine wpAny_mono (srt_tail X (by lia) (out := vs) ?_ h64 rfl) (fun fin s' ⟨x, y, z, n, w⟩ => ⟨x, y, z, n, vs, w, .refl _⟩) fun _ _ z => z
    show (ks.toArray.zip vs.toArray).map (·.2) = vs.toArray
    apply Array.toList_inj.mp
    rw [Array.toList_map, ksk_zip]
    exact List.map_snd_zip (by simp; lia)
  · rw [if_neg h2, if_neg h2]
    rw [List.size_toArray] at h2
    obtain ⟨fs, k1, k2, k3⟩ := kat_of X.keys
    have hpl : ps.length = vs.length := by have := X.keys.length; simp at this; lia
    refine wpAny_bind (kat_kind (T := .type "int") k1 (by lia) (fun v hv => ?_) (by decide) ?_)
    · obtain ⟨i, t, rfl⟩ := k3 v hv
      exact .now
    · have hrun : (kas_sort vs.length).kasWp (kas_ask c.prog c.w A (tuples' true) ks) (fun p s' => Pm vs.length p ∧ s' = s) s := by
        refine KOk.wp (n := vs.length) (I := fun s' => s' = s) (fun i j C s' hi hj e k => ?_) (fun p s' x e => ⟨x, e⟩) (ok_sort (by lia)) rfl
        refine zC5 fun _ hk => ?_
        subst e
        obtain ⟨pi, ei⟩ : ∃ p, ps[i]? = some p := ⟨_, List.getElem?_eq_getElem (by lia)⟩
        obtain ⟨pj, ej⟩ : ∃ p, ps[j]? = some p := ⟨_, List.getElem?_eq_getElem (by lia)⟩
        obtain ⟨v, ev, rv⟩ := X.keys.get (i := i) (x := kyV pi) (by rw [List.getElem?_map, ei]; rfl)
        obtain ⟨u, eu, ru⟩ := X.keys.get (i := j) (x := kyV pj) (by rw [List.getElem?_map, ej]; rfl)
        refine hk ?_
        unfold kas_ask
        simp only [List.getD_eq_getElem?_getD, List.getD_eq_getElem?_getD, ev, eu]
        exact srt_cmp rv ru fun b => k b _ rfl
      refine wpAny_bind (wpAny_mono (kat_run (vs := vs) (ks := ks) (κ := tuples' true) (Q := fun st' s' => s' = s ∧ failedOf st' = none ∧ ∃ p, Pm vs.length p ∧ arrOf st' = p.map (kas_item (ks.toArray.zip vs.toArray))) hl (by lia) h64
        (fun p st' s' b1 b2 b3 b4 => ⟨b4.2, b3, p, b4.1, b2⟩) hrun) ?_ fun _ _ z => z)
      rintro ⟨⟨⟩, st⟩ s' ⟨rfl, hf, p, hp, har⟩
      have pp := pm_items hp
      refine wpAny_mono (srt_tail X (by lia) (kat_snds hl har) (by rw [pp.length_eq]; exact h64) hf) (fun fin s' ⟨x, y, z, n, w⟩ => ⟨x, y, z, n, _, w, pp⟩) fun _ _ z => z
end
end
section
section
variable {c : Cx} {A : Around} {G : Gd} {H : AH} {ps : List (Int × Int)} {ks vs : List Value} {a kS : Addr} {s : Shared}
noncomputable def KeyFn (c : Cx) (A : Around) (G : Gd) (H : AH) (f x : Value) (p : Int × Int) : Prop :=
  ∀ (s : Shared) (Q : Value → Shared → Prop), HS c G H s → (∀ v s', HS c (Gall H s.heap) H s' → Ext s s' → Re s'.heap (kyV p) v → Q v s') → wpAny c.M A (call f [x]) Q NoE s
theorem srt_rest {s₀ : Shared} {e1 : Nat} {f : Value} (X : Led c G H a kS [] [] e1 s₀ s) (hl : ps.length = vs.length) (h1 : 1 ≤ vs.length) (h64 : vs.length < 64)
    (hf : ∀ (i : Nat) x p, vs[i]? = some x → ps[i]? = some p → KeyFn c A G H f x p) :
    wpAny c.M A (ksk_rest a f false vs.toArray e1 (.ref kS)) (fun fin s' => fin = .done (.ret .none) ∧ HS c G H s' ∧ Ext s₀ s' ∧ ∃ n out, s'.heap.get? a = some (seqObj "list" (List.toArray out) n) ∧ out.Perm vs) NoE s := by
  unfold ksk_rest
  refine wpAny_bind (wpAny_rule ?_)
  rw [← Array.forIn_toList]
  refine wpAny_bind (ksk_fold (fun i s' => ∃ ks, Led c G H a kS (ps.take i) ks e1 s₀ s') vs 0 s ⟨[], by simpa using X⟩ ?step ?done)
  case step =>
    rintro j x s' hx ⟨ks, L⟩
    rw [Nat.zero_add] at L ⊢
    have hj : j < vs.length := (List.getElem?_eq_some_iff.mp hx).1
    obtain ⟨p, hp⟩ : ∃ p, ps[j]? = some p := ⟨_, List.getElem?_eq_getElem (by lia)⟩
    have hkl : ks.length ≤ j := by have := L.keys.length; simp at this; lia
    refine wpAny_bind (wpAny_attempt (wpAny_mono (hf j x p hx hp s' _ L.hs (fun v s2 S2 e2 r2 => ?_) : wpAny c.M A (call f [x]) (fun v s2 => HS c (Gall H s'.heap) H s2 ∧ Ext s' s2 ∧ Re s2.heap (kyV p) v) NoE s') (fun v s2 ⟨S2, e2, r2⟩ => ?_) fun _ _ z => z.elim))
    · exact ⟨S2, e2, r2⟩
    · obtain ⟨nk, hk⟩ := L.hk
      have hk2 : s2.heap.get? kS = some (seqObj "list" ks.toArray nk) := S2.prot kS _ (by simp only [Gall.of L.gk.2]; exact hk)
      have ha2 : s2.heap.get? a = some (seqObj "list" #[] e1) := S2.prot a _ (by rw [Gall.of L.ga.2]; exact L.ha)
      have S3 : HS c G H s2 := S2.less (fun b o e => L.hs.up e) L.hs.base
      have s1 := Heap.SameBut.update s2.heap kS (Obj.mapSeq (·.push v))
      obtain ⟨S4, t4⟩ := S3.away (s' := { s2 with heap := s2.heap.update kS (Obj.mapSeq (·.push v)) }) s1 L.gk.1 L.gk.2 hk2 nt_list
      obtain ⟨m, hm⟩ := sq_get (·.push v) hk2
      refine wpAny_bind (listUpdate_at hk2 rfl ?_ (by simp only [List.size_toArray, sizeLine_eq]; lia) (Nat.le_trans (Nat.le_of_eq (Array.size_push ..)) (by rw [List.size_toArray, sizeLine_eq]; lia)))
      have eT : ps.take (j + 1) = ps.take j ++ [p] := by rw [List.take_succ, hp]; rfl
      refine wpAny_pure ⟨rfl, ks ++ [v], S4, L.ext.trans (e2.trans ⟨t4, rfl, rfl⟩), zH1 s1 L.ne ha2, ⟨m, ?_⟩, L.ne, L.ga, L.gk, ?_⟩
      · simp only [hm]; simp
      · simp only [eT, List.map_append]
        exact ReL.append (L.keys.tk (e2.tk.trans t4)) ⟨v, [], rfl, r2.tk t4, rfl⟩
  case done =>
    rintro s' ⟨ks, L⟩
    obtain ⟨nk, hk⟩ := L.hk
    try dsimp only
    refine wpAny_bind (listItems_at hk rfl ?_)
    have hkl : ks.length = vs.length := by have := L.keys.length; simp at this; lia
    exact srt_end L hkl h1 h64
theorem srt_tree {s₀ : Shared} {n : Nat} {f : Addr} (S : HS c G H s) (ex : Ext s₀ s) (ha : s.heap.get? a = some (seqObj "list" vs.toArray n)) (ga : G a = none ∧ H a = none) (hl : ps.length = vs.length) (h1 : 1 ≤ vs.length) (h64 : vs.length < 64)
    (hf : ∀ (i : Nat) x p, vs[i]? = some x → ps[i]? = some p → KeyFn c A G H (.ref f) x p) :
    wpAny c.M A (ksk_tree a (.ref f) false) (fun fin s' => fin = .done (.ret .none) ∧ HS c G H s' ∧ Ext s₀ s' ∧ ∃ n out, s'.heap.get? a = some (seqObj "list" (List.toArray out) n) ∧ out.Perm vs) NoE s := by
  refine zC5 fun _ hk => ?_
  have s1 := Heap.SameBut.update s.heap a (Obj.mapSeq fun _ => (#[] : Array Value))
  obtain ⟨S1, t1⟩ := S.away (s' := { s with heap := s.heap.update a (Obj.mapSeq fun _ => (#[] : Array Value)) }) s1 ga.1 ga.2 ha nt_list
  obtain ⟨e1, he⟩ := sq_get (fun _ => (#[] : Array Value)) ha
  refine hk ?_
  unfold ksk_tree
  refine wpAny_bind (listItems_at ha rfl ?_)
  refine wpAny_bind (listUpdate_at ha rfl ?_ (by rw [List.size_toArray, sizeLine_eq]; lia) (Nat.zero_le _))
  refine wpAny_bind (seqEpoch_at he rfl ?_)
  refine wpAny_bind (wpAny_newTuple ?_ (by show vs.length ≤ _; rw [sizeLine_eq]; lia))
  refine wpAny_bind (wpAny_newList ?_ (Nat.zero_le _))
  refine wpAny_holding ?_
  have k : ∀ b o, (s.heap.update a (Obj.mapSeq fun _ => (#[] : Array Value))).get? b = some o → (((s.heap.update a (Obj.mapSeq fun _ => (#[] : Array Value))).push (seqObj "tuple" vs.toArray 0)).push (seqObj "list" #[] 0)).get? b = some o := fun b o e => Heap.get?_push_of_some _ (Heap.get?_push_of_some _ e)
  have S2 : HS c G H { s with heap := (s.heap.update a (Obj.mapSeq fun _ => (#[] : Array Value))).push (seqObj "tuple" vs.toArray 0) } := S1.ext fun b o e => Heap.get?_push_of_some _ e
  have S3 : HS c G H { s with heap := ((s.heap.update a (Obj.mapSeq fun _ => (#[] : Array Value))).push (seqObj "tuple" vs.toArray 0)).push (seqObj "list" #[] 0) } := S2.ext fun b o e => Heap.get?_push_of_some _ e
  have F := S2.fresh (zH6 _)
  have he2 := k _ _ he
  have hz : a < ((s.heap.update a (Obj.mapSeq fun _ => (#[] : Array Value))).push (seqObj "tuple" vs.toArray 0)).objs.size := Heap.lt_size (Heap.get?_push_of_some (seqObj "tuple" vs.toArray 0) he)
  exact srt_rest (s := { s with heap := ((s.heap.update a (Obj.mapSeq fun _ => (#[] : Array Value))).push (seqObj "tuple" vs.toArray 0)).push (seqObj "list" #[] 0) })
    ⟨S3, ex.trans ⟨t1.trans (Tk.of_keep k), rfl, rfl⟩, he2, ⟨0, Heap.get?_push_size _ rfl⟩, Nat.ne_of_lt hz, ga, ⟨F.2, F.1⟩, rfl⟩ hl h1 h64 hf
theorem srt_sorted {l f : Addr} (S : HS c G H s) (hls : s.heap.IsList l vs.toArray) (hl : ps.length = vs.length) (h1 : 1 ≤ vs.length) (h64 : vs.length < 64)
    (hf : ∀ (i : Nat) x p, vs[i]? = some x → ps[i]? = some p → KeyFn c A.in1.in1 G H (.ref f) x p) :
    wpAny c.M A (call (.builtin "sorted") [.ref l] [(Str.ofString "key", .ref f)]) (fun v s' => ∃ D n out, v = .ref D ∧ G D = none ∧ H D = none ∧ HS c G H s' ∧ Ext s s' ∧ s'.heap.get? D = some (seqObj "list" (List.toArray out) n) ∧ out.Perm vs) NoE s := by
  refine call_function_entry_kw kind_sorted plain_sorted entry_sorted (ksk_s1 _ _) ?_
  refine wpAny_bind (m := checkCount "sorted" 1 1 _) (wpAny_pure ?_)
  refine wpAny_bind (collect_list hls ?_ (by rw [sizeLine_eq]; lia))
  refine wpAny_bind (wpAny_newList ?_ (by rw [sizeLine_eq]; lia))
  have S1 : HS c G H { s with heap := s.heap.push (seqObj "list" #[] 0) } := S.ext fun b o e => Heap.get?_push_of_some _ e
  have F1 := S.fresh (zH6 _)
  obtain ⟨S2, t2⟩ := S1.away (s' := { s with heap := (s.heap.push (seqObj "list" #[] 0)).update s.heap.objs.size (Obj.mapSeq (· ++ vs.toArray)) }) (Heap.SameBut.update _ s.heap.objs.size (Obj.mapSeq (· ++ vs.toArray))) F1.2 F1.1 (Heap.get?_push_size _ rfl) nt_list
  have S3 : HS c G H { s with heap := ((s.heap.push (seqObj "list" #[] 0)).update s.heap.objs.size (Obj.mapSeq (· ++ vs.toArray))).push (seqObj "list" vs.toArray 0) } := S2.ext fun b o e => Heap.get?_push_of_some _ e
  have F2 := S2.fresh (zH6 _)
  dsimp only at F2
  have ex : Ext s { s with heap := ((s.heap.push (seqObj "list" #[] 0)).update s.heap.objs.size (Obj.mapSeq (· ++ vs.toArray))).push (seqObj "list" vs.toArray 0) } :=
    ⟨(Tk.of_keep fun b o e => Heap.get?_push_of_some _ e).trans (t2.trans (Tk.of_keep fun b o e => Heap.get?_push_of_some _ e)), rfl, rfl⟩
  have hoL : (((s.heap.push (seqObj "list" #[] 0)).update s.heap.objs.size (Obj.mapSeq (· ++ vs.toArray))).push (seqObj "list" vs.toArray 0)).get? ((s.heap.push (seqObj "list" #[] 0)).update s.heap.objs.size (Obj.mapSeq (· ++ vs.toArray))).objs.size = some (seqObj "list" vs.toArray 0) := Heap.get?_push_size _ rfl
  refine wpAny_bind (wpAny_holding (wpAny_call_entry_kw slot_list_sort ⟨_, hoL, rfl⟩ entry_list_sort ?body (ksk_l1 _ _)))
  case body =>
    simp only [ksk_t1]
    refine wpAny_mono (srt_tree S3 ex hoL ⟨F2.2, F2.1⟩ hl h1 h64 hf) (fun fin s' ⟨e, y, z, n, out, w, pp⟩ => ⟨_, e, wpAny_pure ⟨_, rfl, _, n, out, rfl, F2.2, F2.1, y, z, w, pp⟩⟩) fun _ _ z => z
end
end
theorem wAttr_start {H : AH} {a d : Addr} {o : Occ} (h : H a = some (.inst 217 d o.fs)) {Q : V → AH → Prop} : zJ3 "start" (.ref a) H Q = Q (.int o.start) H := by
  exact at_ h occF_start rfl
noncomputable abbrev wKey : Ls → Wp V := wTup (zA4 (wOne (zB1 0) (zJ3 "start")) (zA4 (wOne (zB1 0) (zJ3 "number")) zB5))
theorem wKey_at {H : AH} {x : Value} {v : V} {o : Occ} (h : IsOcc H v o) {Q : V → AH → Prop} (q : Q (kyV (o.start, o.num)) H) : wKey [some v] H Q := by
  obtain ⟨a, d, rfl, h⟩ := h
  refine (Eq.mpr (wAttr_start h)) ?_
  refine (Eq.mpr (wAttr_num h)) ?_
  exact ⟨by show (2:Nat) ≤ 1000000; lia, q⟩
theorem lam_key {c : Cx} {A : Around} {d : Nat} {G : Gd} {H : AH} {f c' : Addr} {qual : Str} {params : Arguments} {body : Expr} {sc : Scope} {pm ctv : Value} {x : V} {v : Value} {o : Occ}
    (hb : RE c d qual sc ["taken"] body wKey) (rm : Room A (d + 1)) (hf : G f = some (kla_obj "<lambda>" qual params body sc [] pm c' ctv))
    (hc : ∃ oc vs t, G c' = some oc ∧ oc.data = .fields vs ∧ vs[1]? = some (.str qual t)) (hx : IsOcc H x o) (hv : ∀ h, Re h x v)
    (hbind : ∀ pm cdv ct u, bindArgs (kla_fn "<lambda>" qual params body sc [] pm cdv ct) ⟨[u], []⟩ = pure [(("taken" : Str), u)])
    (hcell : ∀ x ∈ sc.names, x.2 ≠ .cell) (hloc : sc.names.lookup ("taken" : Str) = some .local) (hco : sc.isCoroutine = false) (hgen : sc.isGenerator = false) (hk : sc.kind = .function) :
    KeyFn c A G H (.ref f) v (o.start, o.num) := by
  intro s Q S hQ
  obtain ⟨oc, vs, t, hc1, hc2, hc3⟩ := hc
  refine wpAny_call (kla_callFunE rm.depth (S.prot f _ hf) rfl hco hgen rfl ⟨c', oc, vs, t, rfl, S.prot _ _ hc1, hc2, hc3⟩ ?_)
  simp only [hbind]
  refine wpAny_pure (wpAny_newFunctionEnv hcell (fun y hy => ?_) (fun h₁ hns hsb => ⟨S.T.nolimit.fresh _ hsb, ?_⟩) hk)
  · rcases List.mem_cons.mp hy with rfl | hy
    · exact hloc
    · contradiction
  show codeAny _ _ (.expr body (envOf qual sc s.heap.objs.size f (.ref c'))) _ _
  have k : ∀ b o, s.heap.get? b = some o → h₁.get? b = some o := fun b o e => hsb.extBut b o (Nat.ne_of_lt (Heap.lt_size e)) (Heap.get?_push_of_some _ e)
  have fr := S.all.fresh (zH6 _)
  refine kla_codeExpr (wpAny_mono (hb (A.deeper _) (rm.deeper _) s.heap.objs.size f (.ref c') (Gall H s.heap) [some x] H { s with heap := h₁, toks := s.toks + 1 } (fun V' H' => V' = kyV (o.start, o.num) ∧ H' = H)
    ⟨S.all.ext k, fr.2, fr.1, _, hns, ?_⟩ (wKey_at (x := v) hx ⟨rfl, rfl⟩)) (fun v s' p => ?_) fun _ _ z => z.elim)
  · exact ⟨some x, [], rfl, fun X q => by obtain rfl := Option.some.inj q; exact ⟨v, by simp, hv _⟩, rfl⟩
  · obtain ⟨V', H', r, S', e, rfl, rfl⟩ := p
    exact hQ v s' S'.hs (Ext.trans (s' := { s with heap := h₁, toks := s.toks + 1 }) ⟨Tk.of_keep k, rfl, rfl⟩ e) r
theorem triples_snoc {x y : Int} {t u : Tok} {v : Value} : ∀ {l : List Value}, TriplesOk l → TriplesOk (l ++ [.int x t, .int y u, v])
  | [], _ => trivial
  | .int _ _ :: .int _ _ :: _ :: rest, h => triples_snoc (l := rest) h
theorem HS.updX {c : Cx} {G H s s'} (S : HS c G H s) {a : Addr} {o o' : AO} (hH : H a = some o) (k : Heap.ExtBut a s.heap s'.heap) (ho : OR c s'.heap a o')
    (hi : ∀ C d fs, o ≠ .inst C d fs) (hw : ∀ b, o ≠ .own b) (hi' : ∀ C d fs, o' ≠ .inst C d fs) (hd : o'.isD = true → o.isD = true) : HS c G (H.set a o') s' ∧ Tk s.heap s'.heap := by
  obtain ⟨ob, e1, e2⟩ := (S.obj a o hH).get
  have t : Tk s.heap s'.heap := fun b x i n e cc d => by
    by_cases q : b = a
    · subst q; rw [e1] at e; obtain rfl := Option.some.inj e; exact absurd d (e2 cc i n)
    · exact k b x q e
  refine ⟨⟨S.base, fun b x e => ?_, fun b x e => ?_, fun b e => ?_, fun b C d fs e => ?_, fun b x e d => ?_⟩, t⟩
  · have : b ≠ a := fun q => by rw [q, S.disj a (by rw [hH]; simp)] at e; injection e
    exact k _ _ this (S.prot b x e)
  · by_cases q : b = a
    · subst q; rw [AH.set_self] at e; obtain rfl := Option.some.inj e; exact ho
    · rw [AH.set_ne _ _ q] at e
      refine (S.obj b x e).keep t (fun _ => k _ _ q) (fun C d fs z ob => k _ _ fun z' => ?_)
      subst z z'
      have := S.wf b C d fs e
      rw [hH] at this; exact hw b (Option.some.inj this)
  · by_cases q : b = a
    · subst q; exact S.disj b (by rw [hH]; simp)
    · rw [AH.set_ne _ _ q] at e; exact S.disj b e
  · by_cases q : b = a
    · subst q; rw [AH.set_self] at e; obtain rfl := Option.some.inj e; exact absurd rfl (hi' C d fs)
    · rw [AH.set_ne _ _ q] at e
      have w := S.wf b C d fs e
      rw [AH.set_ne]
      · exact w
      · intro z; rw [z, hH] at w; exact hw b (Option.some.inj w)
  · by_cases q : b = a
    · subst q; rw [AH.set_self] at e; obtain rfl := Option.some.inj e; exact S.ns b _ hH (hd d)
    · rw [AH.set_ne _ _ q] at e; exact S.ns b x e d
theorem HS.addX {c : Cx} {G H s} (S : HS c G H s) {a : Addr} {o : AO} (hG : G a = none) (hH : H a = none) (ho : OR c s.heap a o) (hi : ∀ C d fs, o ≠ .inst C d fs) (hd : o.isD = false) : HS c G (H.set a o) s where
  base := S.base
  prot := S.prot
  obj := fun b x e => by
    by_cases q : b = a
    · subst q; rw [AH.set_self] at e; obtain rfl := Option.some.inj e; exact ho
    · rw [AH.set_ne _ _ q] at e; exact S.obj b x e
  disj := fun b e => by
    by_cases q : b = a
    · subst q; exact hG
    · rw [AH.set_ne _ _ q] at e; exact S.disj b e
  wf := WF.new S.wf hH hi
  ns := fun b x e d => by
    by_cases q : b = a
    · subst q; rw [AH.set_self] at e; obtain rfl := Option.some.inj e; rw [hd] at d; injection d
    · rw [AH.set_ne _ _ q] at e; exact S.ns b x e d
noncomputable def vOf : Value → V
  | .ref a => .ref a
  | _ => .none
theorem occs_vals {H : AH} {h : Heap} : ∀ {vs : List V} {os : List Occ} {us : List Value}, Occs H vs os → ReL h vs us → us.map vOf = vs ∧ (∀ u ∈ us, ∃ a, u = .ref a) ∧ us.length = os.length
  | _, _, _, .nil, e => by obtain rfl : _ = [] := e; exact ⟨rfl, by simp, rfl⟩
  | _, _, _, .cons ⟨a, d, e1, _⟩ r, ⟨u, us, e, ru, rr⟩ => by
    subst e e1
    obtain rfl : u = .ref a := ru
    obtain ⟨q1, q2, q3⟩ := occs_vals r rr
    exact ⟨by simp [vOf, q1], fun x hx => (List.mem_cons.mp hx).elim (fun z => ⟨a, z⟩) (q2 x), by simp [q3]⟩
theorem occs_get {H : AH} {h : Heap} : ∀ {vs : List V} {os : List Occ} {us : List Value} {i : Nat} {x : Value} {o : Occ}, Occs H vs os → ReL h vs us → us[i]? = some x → os[i]? = some o → ∃ v, IsOcc H v o ∧ ∀ h', Re h' v x
  | _, _, _, _, _, _, .nil, e, q, _ => by obtain rfl : _ = [] := e; simp at q
  | _, _, _, 0, _, _, .cons ⟨a, d, e1, ho⟩ r, ⟨u, us, e, ru, rr⟩, q, z => by
    subst e e1
    obtain rfl : u = .ref a := ru
    simp at q z; subst q z
    exact ⟨.ref a, ⟨a, d, rfl, ho⟩, fun _ => rfl⟩
  | _, _, _, i + 1, _, _, .cons ho r, ⟨u, us, e, ru, rr⟩, q, z => by
    subst e
    exact occs_get (i := i) r rr (by simpa using q) (by simpa using z)
theorem reL_refs {h : Heap} : ∀ {us : List Value}, (∀ u ∈ us, ∃ a, u = .ref a) → ReL h (us.map vOf) us := by
  intro zz
  induction zz with
  | nil =>
    intro _
    exact rfl
  | cons u us ih =>
    intro q
    obtain ⟨a, rfl⟩ := q u (.head _)
    exact ⟨.ref a, us, rfl, rfl, ih fun x hx => q x (.tail _ hx)⟩
section
inductive BmAt (c : Cx) : Prop
  | of : ∀ bm ob, (c.mg "__builtins__" = some (.ref bm)) → (bm ≠ builtinsNs) → (c.B.get? bm = some ob) → (ob.cls = .type "module") → (ob.dict = some builtinsNs) → (ob.data = .plain) → BmAt c
section
variable {c : Cx} {d : Nat} {sc lsc : Scope} {params : Arguments} {body : Expr} {p1 p2 kp pos : Pos} {cc a' : Addr}
structure LamOk (c : Cx) (d : Nat) (params : Arguments) (body : Expr) (lsc : Scope) : Prop where
  hb : RE c d "by_start.<locals>.<lambda>" lsc ["taken"] body wKey
  hdef : ∀ env, defaultsOf params env = ([], [])
  hcl : ∀ env, closureFor lsc env = pure []
  hbind : ∀ pm cdv ct u, bindArgs (kla_fn "<lambda>" "by_start.<locals>.<lambda>" params body lsc [] pm cdv ct) ⟨[u], []⟩ = pure [(("taken" : Str), u)]
  hcell : ∀ x ∈ lsc.names, x.2 ≠ .cell
  hloc : lsc.names.lookup ("taken" : Str) = some .local
  hco : lsc.isCoroutine = false
  hgen : lsc.isGenerator = false
  hk : lsc.kind = .function
theorem by_eval {A : Around} {L la : Addr} {vs : List V} {os : List Occ} {G : Gd} {H : AH} {s : Shared} {Q : V → AH → Prop} (rm : Room A (d + 4)) (LO : LamOk c d params body lsc) (bm : BmAt c) (hcd : codeHdIn c.K cc 284 = true)
    (hk : sc.kind = .function) (hx : sc.names.lookup ("sorted" : Str) = some .globalImplicit) (hy : sc.names.lookup ("occupations" : Str) = some .local)
    (S : Sm c G L ["occupations"] [some (.ref la)] H s) (hla : H la = some (.list vs)) (h1 : 1 ≤ vs.length) (h64 : vs.length < 64) (oc : Occs H vs os) (ht : H 284 = some (.tab true))
    (hq : ∀ n vs', H n = none → vs'.Perm vs → Q (.ref n) ((H.set 284 (.tab false)).set n (.list vs'))) :
    wpAny c.M A (eval (.Call (.Name "sorted" p1) [.Name "occupations" p2] [⟨some "key", .Lambda params body lsc lamPos, kp⟩] pos) (envOf "by_start" sc L a' (.ref cc)))
      (fun v s' => ∃ x H', Re s'.heap x v ∧ HS c G H' s' ∧ Ext s s' ∧ Q x H') NoE s := by
  refine wpAny_Call_Name_kw (ev_builtin (v := .builtin "sorted") S (by decide +kernel) (by decide +kernel) (by decide +kernel) hk hx (by decide +kernel) ?_)
  refine callWith_kw (wpAny_mono ((zA2 (zA3 0 (hk := hk) (hx := hy)) zA7 : REs c (d + 4) "by_start" sc ["occupations"] [.Name "occupations" p2] _) A rm L a' (.ref cc) pos G [some (.ref la)] H s
    (fun xs H' => xs = [.ref la] ∧ H' = H) S ⟨rfl, rfl⟩) (fun us s1 ⟨xs, H', rl, S1, e1, ex, eh⟩ => ?_) fun _ _ z => z)
  refine zC5 fun _ hk => ?_
  subst ex eh
  obtain ⟨u, us', rfl, hu, hus⟩ := rl
  obtain rfl : u = .ref la := hu
  obtain rfl : us' = [] := hus
  obtain ⟨ps, hP, hT, hN⟩ := S1.hs.obj 284 _ ht
  obtain ⟨bm, ob, b1, b2, b3, b4, b5, b6⟩ := bm
  have hgP : mainGlobals ≠ 284 := fun q => by
    obtain ⟨o, es, ep, e, hd, _⟩ := S1.hs.T.g
    rw [q, hP] at e; obtain rfl := Option.some.inj e; injection hd
  have hbP : bm ≠ 284 := fun q => by
    have e := S1.hs.keep _ _ b3
    rw [q, hP] at e; obtain rfl := Option.some.inj e; injection b4
  have hbG : bm ≠ mainGlobals := fun q => by
    obtain ⟨o, es, ep, e, hd, _⟩ := c.T.g
    simp only [q, e] at b3; obtain rfl := Option.some.inj b3; rw [hd] at b6; injection b6
  refine hk ?_
  refine kws_cons (kla_eval (LO.hdef _) ?_)
  have hqn : (envOf ("by_start" : Str) sc L a' (.ref cc)).qual ++ ("<lambda>" : Str) = ("by_start.<locals>.<lambda>" : Str) := by show (("by_start" : Str) ++ ".<locals>." : Str) ++ ("<lambda>" : Str) = _; decide +kernel
  rw [hqn]
  refine kla_makeFunction (mg := c.mg) (clos := []) (LO.hcl _) rfl S1.hs.T.g rfl (codeHd_of_K S1.hs.X hcd) hP hT (hN rfl) hgP ⟨bm, ob, b1, b2, hbG, hbP, S1.hs.keep _ _ b3, b4, b5, b6⟩ fun c' ctv h' tk hx' hge hlt hrec htb => kws_nil ?_
  show wpAny c.M A (call (.builtin "sorted") [.ref la] [(Str.ofString "key", .ref h'.objs.size)]) _ _ _
  have X1 := S1.hs.updX (s' := { s1 with heap := h', toks := tk }) (o' := .tab false) ht hx' ⟨_, htb, by simp only [Array.toList_append]; exact triples_snoc hT, by simp⟩ (by intro _ _ _ q; injection q) (by intro _ q; injection q) (by intro _ _ _ q; injection q) (fun q => q)
  obtain ⟨S2, t2⟩ := X1
  have F := S2.fresh (zH6 _)
  dsimp only at F
  have S3 := S2.ext (s' := { s1 with heap := h'.push (kla_obj "<lambda>" "by_start.<locals>.<lambda>" params body lsc [] ((c.mg "__name__").getD .none) c' ctv), toks := tk }) fun b o e => Heap.get?_push_of_some _ e
  generalize hs3 : ({ s1 with heap := h'.push (kla_obj "<lambda>" "by_start.<locals>.<lambda>" params body lsc [] ((c.mg "__name__").getD .none) c' ctv), toks := tk } : Shared) = s3 at S3 ⊢
  refine zC5 fun _ hk => ?_
  have hp3 : s3.heap = h'.push (kla_obj "<lambda>" "by_start.<locals>.<lambda>" params body lsc [] ((c.mg "__name__").getD .none) c' ctv) := by rw [← hs3]
  have e3 : Ext s1 s3 := by simp only [← hs3]; exact ⟨t2.trans (Tk.of_keep fun b o e => Heap.get?_push_of_some _ e), rfl, rfl⟩
  have old : ∀ b, s1.heap.objs.size ≤ b → (H'.set 284 (.tab false)) b = none := fun b hb => by
    have n1 : s1.heap.get? b = none := Heap.get?_none_of_le hb
    have n2 := (S1.hs.fresh n1).1
    rw [AH.set_ne]
    · exact n2
    · intro z; rw [z, ht] at n2; injection n2
  have ki : ∀ b C d fs, H' b = some (.inst C d fs) → (H'.set 284 (.tab false)) b = some (.inst C d fs) := fun b C d fs e => by
    rw [AH.set_ne]
    · exact e
    · intro z; rw [z, ht] at e; exact nomatch e
  have oc2 : Occs (H'.set 284 (.tab false)) vs os := oc.keep ki
  have hla2 : (H'.set 284 (.tab false)) la = some (.list vs) := by
    rw [AH.set_ne]
    · exact hla
    · intro z; rw [z, ht] at hla; exact nomatch hla
  obtain ⟨us, nn, hlist, rl2⟩ := S3.obj la _ hla2
  obtain ⟨m1, m2, m3⟩ := occs_vals oc2 rl2
  have hvl : us.toList.length = vs.length := rl2.length
  obtain ⟨c2, co, cvs, ct, ec, hco, hcd2, hcq⟩ := hrec
  refine hk ?_
  cases ec
  have SA := S3.all
  have hf : Gall (H'.set 284 (.tab false)) s3.heap h'.objs.size = some (kla_obj "<lambda>" "by_start.<locals>.<lambda>" params body lsc [] ((c.mg "__name__").getD .none) c' ctv) := by
    rw [Gall.of F.1, hp3]; exact Heap.get?_push_size _ rfl
  have hcG : Gall (H'.set 284 (.tab false)) s3.heap c' = some co := by
    rw [Gall.of (old _ hge), hp3]; exact Heap.get?_push_of_some _ hco
  refine wpAny_mono (srt_sorted (vs := us.toList) (ps := os.map fun o => (o.start, o.num)) (f := h'.objs.size) SA ⟨_, hlist, rfl, nn, by simp [W.listOf]⟩ (by simp [m3]) (by lia) (by lia) (fun i x p hi hp => ?_)) (fun v s' hv => ?_) fun _ _ z => z
  · rw [List.getElem?_map] at hp
    obtain ⟨o, ho, rfl⟩ := Option.map_eq_some_iff.mp hp
    obtain ⟨w, hw, hr⟩ := occs_get oc2 rl2 hi ho
    exact lam_key (d := d) LO.hb (rm.in1.in1.le (by lia)) hf ⟨co, cvs, ct, hcG, hcd2, hcq⟩ hw hr LO.hbind LO.hcell LO.hloc LO.hco LO.hgen LO.hk
  · refine zC5 fun _ hk => ?_
    obtain ⟨D, n, out, rfl, g1, g2, S4, e4, hD, pp⟩ := hv
    have S5 : HS c G (H'.set 284 (.tab false)) s' := S4.less (fun b o e => S3.up e) S3.base
    have gD : G D = none := by
      cases q : G D with
      | none => rfl
      | some o => rw [S3.up q] at g1; injection g1
    have hHD : H' D = none := by
      by_cases z : D = 284
      · rw [z, AH.set_self] at g2; injection g2
      · rw [AH.set_ne _ _ z] at g2; exact g2
    have refs : ∀ u ∈ out, ∃ a, u = .ref a := fun u hu => m2 u (pp.mem_iff.mp hu)
    refine hk ?_
    refine ⟨.ref D, (H'.set 284 (.tab false)).set D (.list (out.map vOf)), rfl, S5.addX gD g2 ⟨out.toArray, n, hD, by simpa using reL_refs refs⟩ (by intro _ _ _ q; injection q) rfl, e1.trans (e3.trans e4), hq D _ hHD ?_⟩
    simp only [← m1]; exact pp.map _
end
end
structure ByS (c : Cx) : Prop where
  fn : ∃ oc od osl pm cc, c.K.lookup 289 = some ⟨oc, od, .func (fnOf (fName S289) "by_start" (fArgs S289) (fBody S289) (fScope S289) .none .none .none pm none (.ref cc) .none), osl⟩ ∧ codeIn c.K (.ref cc) "by_start" = true ∧ codeHdIn c.K cc 284 = true
  bm : BmAt c
theorem lam289 (c : Cx) (d : Nat) : ∃ A B S p1 p2 kp pos rp, fBody S289 = [.Return (some (.Call (.Name "sorted" p1) [.Name "occupations" p2] [⟨some "key", .Lambda A B S lamPos, kp⟩] pos)) rp] ∧ LamOk c d A B S := by
  refine ⟨_, _, _, _, _, _, _, _, rfl, ?_⟩
  exact { hb := zE7 (zA2 (zF3 (zA3 0) zF2) (zA2 (zF3 (zA3 0) zF2) zA7)), hdef := fun env => rfl, hcl := fun env => rfl, hbind := fun pm cdv ct u => rfl, hcell := by decide +kernel, hloc := by kernel_rfl, hco := rfl, hgen := rfl, hk := rfl }
theorem rf289 {c : Cx} (Bs : ByS c) : RF c 5 289 sp289 := by
  intro A rm G H s Q xs vs S0 rl q
  refine zC5 fun _ hk => ?_
  obtain ⟨la, vl, os, rfl, hla, h1, h64, hoc, ht, hq⟩ := q
  obtain ⟨u, us', rfl, hu, hus⟩ := rl
  obtain rfl : u = .ref la := hu
  obtain rfl : us' = [] := hus
  obtain ⟨oc, od, osl, pm, cc, hlk, hcode, hhd⟩ := Bs.fn
  have ho := S0.X 289 _ hlk
  have hbind : bindArgs (fnOf (fName S289) "by_start" (fArgs S289) (fBody S289) (fScope S289) .none .none .none pm none (.ref cc) .none) ⟨[.ref la], []⟩ = pure ((["occupations"] : List Str).zip [.ref la]) := by rfl
  have hcell : ∀ x ∈ (fScope S289).names, x.2 ≠ .cell := by decide +kernel
  refine hk ?_
  refine codeAny_call_def rm.depth ho rfl S0.T.nolimit (codeRec_of S0.X hcode) rfl (BindsTo.of_eq hbind) hcell (fun x hx => ?_) (fun h₀ N k => ?_) (by rfl) (by rfl) (by rfl)
  · obtain ⟨y, v⟩ := x
    have : y = ("occupations" : Str) := by simpa using (List.of_mem_zip hx).1
    subst this
    show (fScope S289).names.lookup ("occupations" : Str) = some .local
    decide +kernel
  · simp only [callEnv_fn]
    have hk : (fScope S289).kind = .function := by rfl
    have hx : (fScope S289).names.lookup ("sorted" : Str) = some .globalImplicit := by decide +kernel
    have hy : (fScope S289).names.lookup ("occupations" : Str) = some .local := by decide +kernel
    have S1 : HS c G H { s with heap := h₀, toks := s.toks + 1 } := S0.ext k
    obtain ⟨f1, f2⟩ := S0.fresh (zH6 _)
    have SS : Sm c G s.heap.objs.size ["occupations"] [some (.ref la)] H { s with heap := h₀, toks := s.toks + 1 } :=
      ⟨S1, f2, f1, _, N, some (.ref la), [], rfl, fun X q => by obtain rfl := Option.some.inj q; exact ⟨.ref la, by simp, rfl⟩, rfl⟩
    obtain ⟨A, B, S, p1, p2, kp, pos, rp, eb, LO⟩ := lam289 c 0
    simp only [eb]
    generalize fScope S289 = sc at hk hx hy
    refine wpAny_execs_cons (wpAny_Return_some (wpAny_mono (by_eval (d := 0) (rm.deeper _) LO Bs.bm hhd hk hx hy SS hla h1 h64 hoc ht hq) (fun v s2 hz2 => ?_) fun _ _ z => z.elim))
    refine zC5 fun _ hk => ?_
    obtain ⟨x, H', r, S2, e2, q2⟩ := hz2
    refine hk ?_
    exact ⟨x, H', r, S2, Ext.trans (s' := { s with heap := h₀, toks := s.toks + 1 }) ⟨Tk.of_keep k, rfl, rfl⟩ e2, q2⟩
section
structure Mono (S S' : Iv) : Prop where
  up : ∀ (j : Nat) (o : Occ), S.found[j]? = some o → ∃ o', S'.found[j]? = some o' ∧ o'.kind = o.kind ∧ o'.num = o.num ∧ o'.start = o.start ∧ o.stop ≤ o'.stop
  tmp : ∀ n j, S.mp .tmp n = some j → S'.mp .tmp n = some j
theorem Mono.refl (S : Iv) : Mono S S := ⟨fun j o h => ⟨o, h, rfl, rfl, rfl, Int.le_refl _⟩, fun _ _ h => h⟩
theorem Mono.trans {S S' S'' : Iv} (x : Mono S S') (y : Mono S' S'') : Mono S S'' :=
  ⟨fun j o h => let ⟨o1, h1, a1, a2, a3, a4⟩ := x.up j o h; let ⟨o2, h2, b1, b2, b3, b4⟩ := y.up j o1 h1; ⟨o2, h2, b1.trans a1, b2.trans a2, b3.trans a3, Int.le_trans a4 b4⟩, fun n j h => y.tmp n j (x.tmp n j h)⟩
structure Inv (k : Nat) (g : G) (f s at' : Int) (S : Iv) : Prop where
  st : ∀ o ∈ S.found, o.stop ≤ at' ∨ (o.start = at' ∧ o.stop = at' + 1)
  inc : ∀ n i, S.mp .inc n = some i → ∃ o, S.found[i]? = some o ∧ o.start = -1 ∧ o.kind = "in" ∧ o.num = n
  tmp : ∀ n i, S.mp .tmp n = some i → ∃ o, S.found[i]? = some o ∧ o.kind = "temp" ∧ o.num = n
  out : ∀ n i, S.mp .out n = some i → ∃ o, S.found[i]? = some o ∧ o.kind = "out" ∧ o.num = n
  kinds : ∀ o ∈ S.found, o.kind = "temp" ∨ o.kind = "out" ∨ o.kind = "in"
  dom : ∀ n, (∃ j, S.mp .tmp n = some j) ↔ 0 ≤ n ∧ n < f
  tmp2 : ∀ (j : Nat) (o : Occ), S.found[j]? = some o → o.kind = "temp" → S.mp .tmp o.num = some j
  cnt : (temps S.found).length = f.toNat
  num : ∀ o ∈ S.found, zF1 o = false → o.num ≤ 6
  inck : ∀ n : Int, 1 ≤ n → n ≤ k → ∃ i, S.mp .inc n = some i
  outs : ∀ n j, S.mp .out n = some j → n < s
  f0 : 0 ≤ f
  fg : g.fresh ≤ f
  b0 : 0 ≤ g.b
  t0 : 0 ≤ at'
theorem set_get {l : List Occ} {i j : Nat} {o x y : Occ} (hi : l[i]? = some o) (h : (l.set i x)[j]? = some y) : (j = i ∧ y = x) ∨ (j ≠ i ∧ l[j]? = some y) := by
  by_cases q : j = i
  · subst q
    rw [List.getElem?_set_self (List.getElem?_eq_some_iff.mp hi).1] at h
    exact .inl ⟨rfl, (Option.some.inj h).symm⟩
  · rw [List.getElem?_set_ne (Ne.symm q)] at h; exact .inr ⟨q, h⟩
theorem set_at {l : List Occ} {i j : Nat} {o x y : Occ} (hi : l[i]? = some o) (h : l[j]? = some y) : (l.set i x)[j]? = some (if j = i then x else y) := by
  by_cases q : j = i
  · subst q; rw [List.getElem?_set_self (List.getElem?_eq_some_iff.mp hi).1, if_pos rfl]
  · rw [List.getElem?_set_ne (Ne.symm q), if_neg q]; exact h
theorem temps_set {x : Occ} : ∀ {l : List Occ} {i : Nat} {o : Occ}, l[i]? = some o → x.kind = o.kind → (temps (l.set i x)).length = (temps l).length := by
  intro zz
  induction zz with
  | nil =>
    intro _ _ h _
    simp at h
  | cons a l ih =>
    intro zz2
    cases zz2 with
    | zero =>
      intro o h e
      simp at h; subst h
      have : zF1 x = zF1 a := by simp [zF1, e]
      simp only [temps, List.set_cons_zero, List.filter_cons, this]
      split <;> simp
    | succ i =>
      intro o h e
      have := ih (by simpa using h) e
      simp only [temps, List.set_cons_succ, List.filter_cons] at this ⊢
      split <;> simp [this]
section
variable {k : Nat} {g : G} {f s at' : Int} {S : Iv}
theorem Inv.stop (I : Inv k g f s at' S) {i : Nat} {o : Occ} (hi : S.found[i]? = some o) (ho : o.stop ≤ at') : Inv k g f s at' (S.stop i at') ∧ Mono S (S.stop i at') ∧ (S.stop i at').found[i]? = some { o with stop := at' } ∧ (S.stop i at').mp = S.mp := by
  have e : (S.stop i at').found = S.found.set i { o with stop := at' } := by simp [Iv.stop, stopAt, hi]
  have em : (S.stop i at').mp = S.mp := rfl
  have hself : (S.stop i at').found[i]? = some { o with stop := at' } := by rw [e, set_at hi hi, if_pos rfl]
  have keep : ∀ {j : Nat} {y : Occ}, S.found[j]? = some y → ∃ y', (S.stop i at').found[j]? = some y' ∧ y'.kind = y.kind ∧ y'.num = y.num ∧ y'.start = y.start ∧ y.stop ≤ y'.stop := fun {j y} h => by
    rw [e, set_at hi h]
    by_cases q : j = i
    · subst q; rw [hi] at h; obtain rfl := Option.some.inj h
      exact ⟨_, rfl, by rw [if_pos rfl], by rw [if_pos rfl], by rw [if_pos rfl], by rw [if_pos rfl]; exact ho⟩
    · exact ⟨_, rfl, by rw [if_neg q], by rw [if_neg q], by rw [if_neg q], by rw [if_neg q]; exact Int.le_refl _⟩
  have back : ∀ {j : Nat} {y : Occ}, (S.stop i at').found[j]? = some y → ∃ y0, S.found[j]? = some y0 ∧ y.kind = y0.kind ∧ y.num = y0.num ∧ (y = y0 ∨ y.stop = at') := fun {j y} h => by
    rw [e] at h
    rcases set_get hi h with ⟨rfl, rfl⟩ | ⟨q, h⟩
    · exact ⟨o, hi, rfl, rfl, .inr rfl⟩
    · exact ⟨y, h, rfl, rfl, .inl rfl⟩
  have mem : ∀ {y : Occ}, y ∈ (S.stop i at').found → ∃ y0 ∈ S.found, y.kind = y0.kind ∧ y.num = y0.num ∧ (y = y0 ∨ y.stop = at') := fun {y} h => by
    obtain ⟨j, hj⟩ := List.mem_iff_getElem?.mp h
    obtain ⟨y0, a, b, c, d⟩ := back hj
    exact ⟨y0, List.mem_of_getElem? a, b, c, d⟩
  refine ⟨⟨fun y hy => ?_, fun n j h => ?_, fun n j h => ?_, fun n j h => ?_, fun y hy => ?_, I.dom, fun j y h ht => ?_, ?_, fun y hy ht => ?_, I.inck, I.outs, I.f0, I.fg, I.b0, I.t0⟩, ⟨fun j y h => keep h, fun _ _ h => h⟩, hself, em⟩
  · obtain ⟨y0, h0, _, _, h | h⟩ := mem hy
    · rw [h]; exact I.st y0 h0
    · exact .inl (by rw [h]; exact Int.le_refl _)
  · refine zC5 fun _ hk => ?_
    obtain ⟨y, h1, h2, h3, h4⟩ := I.inc n j h
    obtain ⟨y', g1, g2, g3, g4, g5⟩ := keep h1
    refine hk ?_
    exact ⟨y', g1, g4.trans h2, g2.trans h3, g3.trans h4⟩
  · obtain ⟨y, h1, h2, h3⟩ := I.tmp n j h
    obtain ⟨y', g1, g2, g3, g4, g5⟩ := keep h1
    exact ⟨y', g1, g2.trans h2, g3.trans h3⟩
  · obtain ⟨y, h1, h2, h3⟩ := I.out n j h
    obtain ⟨y', g1, g2, g3, g4, g5⟩ := keep h1
    exact ⟨y', g1, g2.trans h2, g3.trans h3⟩
  · obtain ⟨y0, h0, h1, _, _⟩ := mem hy
    rw [h1]; exact I.kinds y0 h0
  · obtain ⟨y0, h0, h1, h2, _⟩ := back h
    rw [h2]; exact I.tmp2 j y0 h0 (h1.symm.trans ht)
  · rw [e, temps_set (x := { o with stop := at' }) hi rfl]; exact I.cnt
  · obtain ⟨y0, h0, h1, h2, _⟩ := mem hy
    rw [h2]; exact I.num y0 h0 (by simpa [zF1, h1] using ht)
theorem app_get {l : List Occ} {x y : Occ} {j : Nat} (h : (l ++ [x])[j]? = some y) : l[j]? = some y ∨ (j = l.length ∧ y = x) := by
  by_cases q : j < l.length
  · rw [List.getElem?_append_left q] at h; exact .inl h
  · rw [List.getElem?_append_right (by lia)] at h
    cases z : j - l.length with
    | zero => rw [z] at h; simp at h; exact .inr ⟨by lia, h.symm⟩
    | succ m => rw [z] at h; simp at h
theorem app_old {l : List Occ} {x y : Occ} {j : Nat} (h : l[j]? = some y) : (l ++ [x])[j]? = some y := by
  rw [List.getElem?_append_left (List.getElem?_eq_some_iff.mp h).1]; exact h
theorem app_new {l : List Occ} {x : Occ} : (l ++ [x])[l.length]? = some x := by simp
end
theorem strne1 : ("temp" : Str) ≠ "out" := by decide +kernel
theorem strne2 : ("temp" : Str) ≠ "in" := by decide +kernel
theorem strne3 : ("out" : Str) ≠ "in" := by decide +kernel
section
variable {k : Nat} {g : G} {f s at' : Int} {S : Iv}
set_option tactic.hygienic true in
theorem Inv.pushT (I : Inv k g f s at' S) : Inv k g (f + 1) s at' ((S.push ⟨"temp", f, at', at' + 1⟩).put .tmp f S.found.length) ∧ Mono S ((S.push ⟨"temp", f, at', at' + 1⟩).put .tmp f S.found.length) := by
  have none : S.mp .tmp f = none := by
    cases q : S.mp .tmp f with
    | none => rfl
    | some j => have := (I.dom f).mp ⟨j, q⟩; lia
  have e1 : ∀ n, ((S.push ⟨"temp", f, at', at' + 1⟩).put .tmp f S.found.length).mp .tmp n = if n = f then some S.found.length else S.mp .tmp n := fun n => rfl
  have f0 := I.f0
  refine ⟨⟨fun y hy => ?_, fun n j h => ?_, fun n j h => ?_, fun n j h => ?_, fun y hy => ?_, fun n => ?_, fun j y h ht => ?_, ?_, fun y hy ht => ?_, I.inck, I.outs, by lia, by have := I.fg; lia, I.b0, I.t0⟩, ⟨fun j y h => ⟨y, app_old h, rfl, rfl, rfl, Int.le_refl _⟩, fun n j h => ?_⟩⟩
  · rcases List.mem_append.mp hy with h | h
    · exact I.st y h
    · rw [List.mem_singleton.mp h]; exact .inr ⟨rfl, rfl⟩
  · obtain ⟨y, h1, h2⟩ := I.inc n j h
    exact ⟨y, app_old h1, h2⟩
  · rw [e1] at h
    split at h
    · rename_i z; obtain rfl := Option.some.inj h; cases z; exact ⟨_, app_new, rfl, rfl⟩
    · obtain ⟨y, h1, h2⟩ := I.tmp n j h; exact ⟨y, app_old h1, h2⟩
  · obtain ⟨y, h1, h2⟩ := I.out n j h
    exact ⟨y, app_old h1, h2⟩
  · rcases List.mem_append.mp hy with h | h
    · exact I.kinds y h
    · rw [List.mem_singleton.mp h]; exact .inl rfl
  · rw [e1]
    by_cases z : n = f
    · cases z; simp; lia
    · rw [if_neg z, I.dom n]; lia
  · rw [e1]
    rcases app_get h with h | ⟨hj, hy⟩
    · have := I.tmp2 j y h ht
      rw [if_neg]
      · exact this
      · intro z; simp only [z, none] at this; injection this
    · subst hy; subst hj; rw [if_pos rfl]
  · show (temps (S.found ++ [_])).length = _
    have : temps (S.found ++ [⟨"temp", f, at', at' + 1⟩]) = temps S.found ++ [⟨"temp", f, at', at' + 1⟩] := by simp [temps, zF1]
    simp only [this, List.length_append, I.cnt]; simp; lia
  · rcases List.mem_append.mp hy with h | h
    · exact I.num y h ht
    · rw [List.mem_singleton.mp h] at ht; simp [zF1] at ht
  · rw [e1, if_neg]
    · exact h
    · intro z; rw [z, none] at h; injection h
set_option tactic.hygienic true in
theorem Inv.pushO (I : Inv k g f s at' S) (h6 : s ≤ 6) : Inv k g f (s + 1) at' ((S.push ⟨"out", s, at', at' + 1⟩).put .out s S.found.length) ∧ Mono S ((S.push ⟨"out", s, at', at' + 1⟩).put .out s S.found.length) := by
  have e1 : ∀ n, ((S.push ⟨"out", s, at', at' + 1⟩).put .out s S.found.length).mp .out n = if n = s then some S.found.length else S.mp .out n := fun n => rfl
  refine ⟨⟨fun y hy => ?_, fun n j h => ?_, fun n j h => ?_, fun n j h => ?_, fun y hy => ?_, I.dom, fun j y h ht => ?_, ?_, fun y hy ht => ?_, I.inck, fun n j h => ?_, I.f0, I.fg, I.b0, I.t0⟩, ⟨fun j y h => ⟨y, app_old h, rfl, rfl, rfl, Int.le_refl _⟩, fun n j h => h⟩⟩
  · rcases List.mem_append.mp hy with h | h
    · exact I.st y h
    · rw [List.mem_singleton.mp h]; exact .inr ⟨rfl, rfl⟩
  · obtain ⟨y, h1, h2⟩ := I.inc n j h
    exact ⟨y, app_old h1, h2⟩
  · obtain ⟨y, h1, h2⟩ := I.tmp n j h; exact ⟨y, app_old h1, h2⟩
  · rw [e1] at h
    split at h
    · rename_i z; obtain rfl := Option.some.inj h; subst z; exact ⟨_, app_new, rfl, rfl⟩
    · obtain ⟨y, h1, h2⟩ := I.out n j h; exact ⟨y, app_old h1, h2⟩
  · rcases List.mem_append.mp hy with h | h
    · exact I.kinds y h
    · rw [List.mem_singleton.mp h]; exact .inr (.inl rfl)
  · rcases app_get h with h | ⟨hj, hy⟩
    · exact I.tmp2 j y h ht
    · subst hy; exact absurd ht.symm strne1
  · show (temps (S.found ++ [_])).length = _
    have : temps (S.found ++ [⟨"out", s, at', at' + 1⟩]) = temps S.found := by
      have : zF1 ⟨"out", s, at', at' + 1⟩ = false := by simp only [zF1, decide_eq_false_iff_not]; exact strne1.symm
      simp [temps, this]
    rw [this]; exact I.cnt
  · rcases List.mem_append.mp hy with h | h
    · exact I.num y h ht
    · rw [List.mem_singleton.mp h]; exact h6
  · rw [e1] at h
    split at h
    · lia
    · have := I.outs n j h; lia
noncomputable def Eff (at' : Int) (S S' : Iv) (p : Int × Op) : Prop := match p.2 with
  | .t n => (∃ (j : Nat) (o : Occ), S'.mp .tmp n = some j ∧ S'.found[j]? = some o ∧ at' ≤ o.stop) ∧ (p.1 = 2 → ∃ (j : Nat) (o : Occ), S'.mp .tmp n = some j ∧ S'.found[j]? = some o ∧ o.start = at' ∧ at' + 1 ≤ o.stop)
  | .a n => if p.1 = 2 then ∃ (j : Nat) (o : Occ), S'.mp .out n = some j ∧ S'.found[j]? = some o ∧ o.kind = "out" ∧ o.num = n ∧ o.start = at' ∧ at' + 1 ≤ o.stop
    else ∃ (j : Nat) (o : Occ), S'.found[j]? = some o ∧ o.kind = "in" ∧ o.num = n ∧ o.start = -1 ∧ at' ≤ o.stop
  | _ => True
set_option tactic.hygienic true in
theorem Inv.step (I : Inv k g f s at' S) {p : Int × Op} {fs : Int × Int} (h : OpS k g (f, s) p fs) : Inv k g fs.1 fs.2 at' (ivOp at' S p) ∧ Mono S (ivOp at' S p) ∧ Eff at' S (ivOp at' S p) p ∧ ((∀ n, p ≠ (2, .a n)) → (ivOp at' S p).mp .out = S.mp .out) := by
  cases h with
  | y => exact ⟨I, Mono.refl _, trivial, fun _ => rfl⟩
  | rt h1 h2 h3 =>
    rename_i ro n
    refine zC5 fun _ hk => ?_
    have b0 := I.b0
    have fg := I.fg
    obtain ⟨j, hj⟩ := (I.dom n).mpr ⟨by lia, by lia⟩
    obtain ⟨o, ho, _, _⟩ := I.tmp n j hj
    refine hk ?_
    by_cases lt : o.stop < at'
    · have e : ivOp at' S (ro, .t n) = S.stop j at' := by simp only [ivOp, hj, ho, lt, if_true]
      obtain ⟨a1, a2, a3, a4⟩ := I.stop ho (by lia)
      rw [e]
      exact ⟨a1, a2, ⟨⟨j, _, by rw [a4]; exact hj, a3, Int.le_refl _⟩, fun z => absurd z h1⟩, fun _ => by rw [a4]⟩
    · have e : ivOp at' S (ro, .t n) = S := by simp only [ivOp, hj, ho, lt, if_false]
      rw [e]
      exact ⟨I, Mono.refl _, ⟨⟨j, o, hj, ho, by lia⟩, fun z => absurd z h1⟩, fun _ => rfl⟩
  | ra h1 h2 h3 h4 =>
    rename_i ro n
    refine zC5 fun _ hk => ?_
    obtain ⟨j, hj⟩ := I.inck n h3 h4
    obtain ⟨o, ho, q1, q2, q3⟩ := I.inc n j hj
    have t0 := I.t0
    have hs : o.stop ≤ at' := by
      rcases I.st o (List.mem_of_getElem? ho) with h | h
      · exact h
      · lia
    have e : ivOp at' S (ro, .a n) = S.stop j at' := by simp only [ivOp, h1, if_false, hj]
    obtain ⟨a1, a2, a3, a4⟩ := I.stop ho hs
    refine hk ?_
    rw [e]
    refine ⟨a1, a2, ?_, fun _ => by rw [a4]⟩
    simp only [Eff, h1, if_false]
    exact ⟨j, _, a3, q2, q3, q1, Int.le_refl _⟩
  | wt =>
    refine zC5 fun _ hk => ?_
    have none : S.mp .tmp f = none := by
      cases q : S.mp .tmp f with
      | none => rfl
      | some j => have := (I.dom f).mp ⟨j, q⟩; lia
    have e : ivOp at' S (2, .t f) = (S.push ⟨"temp", f, at', at' + 1⟩).put .tmp f S.found.length := by simp only [ivOp, none]
    obtain ⟨a1, a2⟩ := I.pushT
    refine hk ?_
    rw [e]
    have m : ((S.push ⟨"temp", f, at', at' + 1⟩).put .tmp f S.found.length).mp .tmp f = some S.found.length := by show (if f = f then _ else _) = _; rw [if_pos rfl]
    exact ⟨a1, a2, ⟨⟨_, _, m, app_new, by show at' ≤ at' + 1; lia⟩, fun _ => ⟨_, _, m, app_new, rfl, Int.le_refl _⟩⟩, fun _ => rfl⟩
  | wa h1 h2 h3 =>
    have e : ivOp at' S (2, .a s) = (S.push ⟨"out", s, at', at' + 1⟩).put .out s S.found.length := by simp only [ivOp, if_true]
    obtain ⟨a1, a2⟩ := I.pushO h3
    have m : ((S.push ⟨"out", s, at', at' + 1⟩).put .out s S.found.length).mp .out s = some S.found.length := by show (if s = s then _ else _) = _; rw [if_pos rfl]
    refine ⟨a1, a2, ?_, fun z => absurd rfl (z s)⟩
    exact ⟨_, _, m, app_new, rfl, rfl, rfl, Int.le_refl _⟩
end
end
theorem Eff.up {at' : Int} {S S' S'' : Iv} {p : Int × Op} (h : Eff at' S S' p) (m : Mono S' S'') (ho : ∀ n j, p = (2, .a n) → S'.mp .out n = some j → S''.mp .out n = some j) : Eff at' S S'' p := by
  obtain ⟨ro, o⟩ := p
  cases o with
  | t n =>
    obtain ⟨⟨j, o, h1, h2, h3⟩, h4⟩ := h
    refine ⟨?_, fun z => ?_⟩
    · refine zC5 fun _ hk => ?_
      obtain ⟨o', g1, g2, g3, g4, g5⟩ := m.up j o h2
      refine hk ?_
      exact ⟨j, o', m.tmp n j h1, g1, by lia⟩
    · refine zC5 fun _ hk => ?_
      obtain ⟨j, o, h1, h2, h3, h5⟩ := h4 z
      obtain ⟨o', g1, g2, g3, g4, g5⟩ := m.up j o h2
      refine hk ?_
      exact ⟨j, o', m.tmp n j h1, g1, by lia, by lia⟩
  | a n =>
    dsimp only [Eff] at h ⊢
    by_cases z : ro = 2
    · simp only [z, if_true] at h ⊢
      obtain ⟨j, o, h1, h2, h3, h4, h5, h6⟩ := h
      obtain ⟨o', g1, g2, g3, g4, g5⟩ := m.up j o h2
      exact ⟨j, o', ho n j (by rw [z]) h1, g1, g2.trans h3, g3.trans h4, g4.trans h5, by lia⟩
    · simp only [z, if_false] at h ⊢
      obtain ⟨j, o, h2, h3, h4, h5, h6⟩ := h
      obtain ⟨o', g1, g2, g3, g4, g5⟩ := m.up j o h2
      exact ⟨j, o', g1, g2.trans h3, g3.trans h4, g4.trans h5, by lia⟩
  | y n => trivial
  | x n => trivial
theorem OpS.grow {k g f s p fs} (h : OpS k g (f, s) p fs) : f ≤ fs.1 ∧ s ≤ fs.2 ∧ ∀ n, p = (2, .a n) → n = s ∧ fs.2 = s + 1 := by
  cases h with
  | y => exact ⟨Int.le_refl _, Int.le_refl _, fun n e => by cases e⟩
  | rt => exact ⟨Int.le_refl _, Int.le_refl _, fun n e => by cases e⟩
  | ra h1 => exact ⟨Int.le_refl _, Int.le_refl _, fun n e => by cases e; exact absurd rfl h1⟩
  | wt => exact ⟨by show f ≤ f + 1; lia, Int.le_refl _, fun n e => by cases e⟩
  | wa => exact ⟨Int.le_refl _, by show s ≤ s + 1; lia, fun n e => by cases e; exact ⟨rfl, rfl⟩⟩
theorem Inv.ops {k : Nat} {g : G} {at' : Int} : ∀ {ps : List (Int × Op)} {f s f' s' : Int} {S : Iv}, OpsS k g ps (f, s) (f', s') → Inv k g f s at' S →
    Inv k g f' s' at' (ps.foldl (ivOp at') S) ∧ Mono S (ps.foldl (ivOp at') S) ∧ (∀ n j, n < s → S.mp .out n = some j → (ps.foldl (ivOp at') S).mp .out n = some j) ∧ f ≤ f' ∧ s ≤ s' ∧ ∀ p ∈ ps, Eff at' S (ps.foldl (ivOp at') S) p := by
  intro zz
  induction zz with
  | nil =>
    intro f s f' s' S h I
    cases h
    exact ⟨I, Mono.refl _, fun _ _ _ h => h, Int.le_refl _, Int.le_refl _, fun p hp => by cases hp⟩
  | cons p ps ih =>
    rintro f s f' s' S ⟨fs1, h, hs⟩ I
    refine zC5 fun _ hk => ?_
    obtain ⟨f1, s1⟩ := fs1
    obtain ⟨a1, a2, a3, a4⟩ := I.step h
    obtain ⟨g1, g2, g3⟩ := h.grow
    obtain ⟨b1, b2, b3, b4, b5, b6⟩ := ih hs a1
    simp only at g1 g2
    refine hk ?_
    refine ⟨b1, a2.trans b2, fun n j hn hj => ?_, by lia, by lia, fun q hq => ?_⟩
    · refine b3 n j (by lia) ?_
      cases Classical.em (∃ m, p = (2, .a m)) with
      | inl hm =>
        obtain ⟨m, rfl⟩ := hm
        have := (g3 m rfl).1
        show (ivOp at' S (2, .a m)).mp .out n = _
        simp only [ivOp, if_true, Iv.put, Iv.push, updM]
        rw [if_neg (by lia)]; exact hj
      | inr hm => rw [a4 fun m e => hm ⟨m, e⟩]; exact hj
    · rcases List.mem_cons.mp hq with rfl | hq
      · refine (a3.up b2 fun n j e h => b3 n j ?_ h)
        have := g3 n e
        simp only at this
        lia
      · exact b6 q hq
noncomputable def Flat (at' : Int) (S : Iv) : Prop := ∀ o ∈ S.found, o.stop ≤ at'
theorem Inv.row0 {k : Nat} {g g' : G} {f s s' at' : Int} {S : Iv} (I : Inv k g f s at' S) (h1 : g'.fresh ≤ f) (h2 : 0 ≤ g'.b) (h3 : s ≤ s') : Inv k g' f s' (at' + 1) S ∧ Flat (at' + 1) S := by
  have st : Flat (at' + 1) S := fun o ho => by rcases I.st o ho with h | h <;> lia
  exact ⟨⟨fun o ho => .inl (st o ho), I.inc, I.tmp, I.out, I.kinds, I.dom, I.tmp2, I.cnt, I.num, I.inck, fun n j h => by have := I.outs n j h; lia, I.f0, h1, h2, by have := I.t0; lia⟩, st⟩
theorem Inv.endR {k : Nat} {g g' : G} {f s at' : Int} {S : Iv} (I : Inv k g f s at' S) (F : Flat at' S) (h1 : g'.fresh ≤ f) (h2 : 0 ≤ g'.b) :
    Inv k g' f 1 (at' + 1) (({ S with found := endOuts S at' } : Iv).clr .out) ∧ Flat (at' + 1) (({ S with found := endOuts S at' } : Iv).clr .out) ∧ Mono S (({ S with found := endOuts S at' } : Iv).clr .out) ∧
    ∀ n j, S.mp .out n = some j → ∃ o', (endOuts S at')[j]? = some o' ∧ at' ≤ o'.stop := by
  classical
  have get : ∀ (j : Nat), (endOuts S at')[j]? = (S.found[j]?).map fun o => if ∃ k, S.mp .out k = some j then { o with stop := at' } else o := fun j => by
    unfold endOuts; simp only [List.getElem?_mapIdx]
  have gt : ∀ {j : Nat} {y : Occ}, S.found[j]? = some y → (∃ k, S.mp .out k = some j) → (endOuts S at')[j]? = some { y with stop := at' } := fun {j y} h q => by
    simp only [get, h]; rw [Option.map_some, if_pos q]
  have gf : ∀ {j : Nat} {y : Occ}, S.found[j]? = some y → ¬ (∃ k, S.mp .out k = some j) → (endOuts S at')[j]? = some y := fun {j y} h q => by
    simp only [get, h]; rw [Option.map_some, if_neg q]
  have keep : ∀ {j : Nat} {y : Occ}, S.found[j]? = some y → ∃ y', (endOuts S at')[j]? = some y' ∧ y'.kind = y.kind ∧ y'.num = y.num ∧ y'.start = y.start ∧ y.stop ≤ y'.stop := fun {j y} h => by
    have := F y (List.mem_of_getElem? h)
    by_cases q : ∃ k, S.mp .out k = some j
    · exact ⟨_, gt h q, rfl, rfl, rfl, this⟩
    · exact ⟨_, gf h q, rfl, rfl, rfl, Int.le_refl _⟩
  have back : ∀ {j : Nat} {y : Occ}, (endOuts S at')[j]? = some y → ∃ y0, S.found[j]? = some y0 ∧ y.kind = y0.kind ∧ y.num = y0.num ∧ y.stop ≤ at' := fun {j y} h => by
    rw [get] at h
    cases e : S.found[j]? with
    | none => simp only [e] at h; injection h
    | some y0 =>
      rw [← get] at h
      have := F y0 (List.mem_of_getElem? e)
      refine ⟨y0, rfl, ?_⟩
      by_cases q : ∃ k, S.mp .out k = some j
      · rw [gt e q] at h; obtain rfl := Option.some.inj h; exact ⟨rfl, rfl, Int.le_refl _⟩
      · rw [gf e q] at h; obtain rfl := Option.some.inj h; exact ⟨rfl, rfl, this⟩
  have mem : ∀ {y : Occ}, y ∈ endOuts S at' → ∃ y0 ∈ S.found, y.kind = y0.kind ∧ y.num = y0.num ∧ y.stop ≤ at' := fun {y} h => by
    obtain ⟨j, hj⟩ := List.mem_iff_getElem?.mp h
    obtain ⟨y0, a, b⟩ := back hj
    exact ⟨y0, List.mem_of_getElem? a, b⟩
  have fl : ∀ y ∈ endOuts S at', y.stop ≤ at' + 1 := fun y hy => by obtain ⟨_, _, _, _, h⟩ := mem hy; lia
  have tl : (temps (endOuts S at')).length = (temps S.found).length := by
    have key : ∀ (l : List Occ) (f : Nat → Occ → Occ), (∀ i o, (f i o).kind = o.kind) → (temps (l.mapIdx f)).length = (temps l).length := by
      intro l
      induction l with
      | nil => intro f hf; rfl
      | cons a l ih =>
        intro f hf
        rw [List.mapIdx_cons]
        have : zF1 (f 0 a) = zF1 a := by simp [zF1, hf]
        have ih' := ih (fun i => f (i + 1)) (fun i o => hf (i + 1) o)
        simp only [temps, List.filter_cons, this] at ih' ⊢
        split <;> simp [ih']
    exact key _ _ fun i o => by split <;> rfl
  refine ⟨⟨fun o ho => .inl (fl o ho), fun n j h => ?_, fun n j h => ?_, fun n j h => ?_, fun y hy => ?_, I.dom, fun j y h ht => ?_, ?_, fun y hy ht => ?_, I.inck, fun n j h => ?_, I.f0, h1, h2, by have := I.t0; lia⟩, fl, ⟨fun j o h => keep h, fun n j h => h⟩, fun n j h => ?_⟩
  · refine zC5 fun _ hk => ?_
    obtain ⟨y, h1, h2, h3, h4⟩ := I.inc n j h
    obtain ⟨y', g1, g2, g3, g4, g5⟩ := keep h1
    refine hk ?_
    exact ⟨y', g1, g4.trans h2, g2.trans h3, g3.trans h4⟩
  · refine zC5 fun _ hk => ?_
    obtain ⟨y, h1, h2, h3⟩ := I.tmp n j h
    obtain ⟨y', g1, g2, g3, g4, g5⟩ := keep h1
    refine hk ?_
    exact ⟨y', g1, g2.trans h2, g3.trans h3⟩
  · injection h
  · obtain ⟨y0, h0, h1, _, _⟩ := mem hy
    rw [h1]; exact I.kinds y0 h0
  · obtain ⟨y0, h0, h1, h2, _⟩ := back h
    rw [h2]; exact I.tmp2 j y0 h0 (h1.symm.trans ht)
  · exact tl.trans I.cnt
  · obtain ⟨y0, h0, h1, h2, _⟩ := mem hy
    rw [h2]; exact I.num y0 h0 (by simpa [zF1, h1] using ht)
  · injection h
  · obtain ⟨y, h1, _⟩ := I.out n j h
    exact ⟨_, gt h1 ⟨n, h⟩, Int.le_refl _⟩
theorem ends_rol {i : zC7} (h : i.ends = true) : i.rol = [] := by cases i <;> first | rfl | injection h
theorem calls_ends {i : zC7} (h : i.calls = true) : i.ends = true := by cases i <;> first | rfl | injection h
theorem ivRow_eq (at' : Int) (S : Iv) (i : zC7) : ivRow at' S i.row = i.rol.foldl (ivOp at') (if i.ends then ({ S with found := endOuts S at' } : Iv).clr .out else S) := by
  unfold ivRow; rw [zC7.roles_eq, zC7.ends_eq]
theorem Inv.row {k : Nat} {g g' : G} {at' : Int} {S : Iv} {i : zC7} (h : ItS k g i g') (I : Inv k g g.fresh g.spot at' S) (F : Flat at' S) :
    Inv k g' g'.fresh g'.spot (at' + 1) (ivRow at' S i.row) ∧ Flat (at' + 1) (ivRow at' S i.row) ∧ Mono S (ivRow at' S i.row) ∧ (∀ p ∈ i.rol, Eff at' S (ivRow at' S i.row) p) ∧
    (i.ends = false → ∀ n j, n < g.spot → S.mp .out n = some j → (ivRow at' S i.row).mp .out n = some j) ∧ (i.ends = true → ∀ n j, S.mp .out n = some j → ∃ o', (ivRow at' S i.row).found[j]? = some o' ∧ at' ≤ o'.stop) ∧ (i.ends = false → g.spot ≤ g'.spot) := by
  obtain ⟨h0, f, s, hops, rfl⟩ := h
  rw [ivRow_eq]
  cases he : i.ends with
  | true =>
    have hr := ends_rol he
    rw [hr] at hops
    cases hops
    rw [hr]
    dsimp only [if_true, List.foldl_nil]
    have e1 : (g.next i g.fresh g.spot).fresh = g.fresh := by unfold G.next; rw [he]; split <;> rfl
    have e2 : (g.next i g.fresh g.spot).spot = 1 := by unfold G.next; rw [he]; split <;> rfl
    have e3 : 0 ≤ (g.next i g.fresh g.spot).b := by
      have := I.b0
      have := I.f0
      unfold G.next; rw [he]; split <;> assumption
    rw [e1, e2]
    refine zC5 fun _ hk => ?_
    obtain ⟨a1, a2, a3, a4⟩ := I.endR (g' := g.next i g.fresh g.spot) F (by rw [e1]; exact Int.le_refl _) e3
    refine hk ?_
    exact ⟨a1, a2, a3, fun p hp => (by contradiction), fun z => (by injection z), fun _ => a4, fun z => (by injection z)⟩
  | false =>
    refine zC5 fun _ hk => ?_
    obtain ⟨a1, a2, a3, a4, a5, a6⟩ := I.ops hops
    have hc : i.calls = false := by
      cases q : i.calls with
      | false => rfl
      | true => have := calls_ends q; rw [he] at this; injection this
    have e : g.next i f s = ⟨g.b, f, s, g.gets⟩ := by unfold G.next; rw [he, hc]; rfl
    refine hk ?_
    rw [e]
    obtain ⟨b1, b2⟩ := a1.row0 (g' := ⟨g.b, f, s, g.gets⟩) (Int.le_refl _) I.b0 (Int.le_refl _)
    exact ⟨b1, b2, a2, a6, fun _ => a3, fun z => (by contradiction), fun _ => a5⟩
theorem Inv.run {k : Nat} : ∀ {is : List zC7} {g g' : G} {at' : Int} {S : Iv}, ItsS k is g g' → Inv k g g.fresh g.spot at' S → Flat at' S →
    Inv k g' g'.fresh g'.spot (at' + is.length) (ivRun (is.map zC7.row) at' S) ∧ Flat (at' + is.length) (ivRun (is.map zC7.row) at' S) ∧ Mono S (ivRun (is.map zC7.row) at' S) := by
  intro zz
  induction zz with
  | nil =>
    intro g g' at' S h I F
    rw [show g' = g from h]
    simpa [ivRun] using ⟨I, F, Mono.refl S⟩
  | cons i is ih =>
    intro g g' at' S hz4 I F
    refine zC5 fun _ hk => ?_
    obtain ⟨g1, h, hs⟩ := hz4
    refine hk ?_
    refine zC5 fun _ hk => ?_
    obtain ⟨a1, a2, a3, _⟩ := I.row h F
    obtain ⟨b1, b2, b3⟩ := ih hs a1 a2
    refine hk ?_
    rw [show at' + ((i :: is).length : Int) = at' + 1 + (is.length : Int) by simp; lia]
    exact ⟨b1, b2, a3.trans b3⟩
inductive Ch (k : Nat) : List zC7 → G → G → Prop where
  | nil {g} : Ch k [] g g
  | off {is g g'} : Ch k is { g with gets := false } g' → Ch k is g g'
  | cons {i is g g1 g'} : ItS k g i g1 → Ch k is g1 g' → Ch k (i :: is) g g'
theorem Ch.of {k : Nat} : ∀ {is : List zC7} {g g' : G}, ItsS k is g g' → Ch k is g g' := by
  intro zz
  induction zz with
  | nil =>
    intro g g' h
    simp only [show g' = g from h]; exact .nil
  | cons i is ih =>
    rintro g g' ⟨g1, h, hs⟩
    exact .cons h (ih hs)
theorem Ch.append {k : Nat} {is js : List zC7} {g g1 g2 : G} (h : Ch k is g g1) (h' : Ch k js g1 g2) : Ch k (is ++ js) g g2 := by
  induction h with
  | nil => exact h'
  | off _ ih => exact .off (ih h')
  | cons a _ ih => exact .cons a (ih h')
noncomputable def g0 : G := ⟨0, 0, 1, true⟩
theorem CodeOk.ch {k is} (h : CodeOk k is) : ∃ g, Ch k is g0 g ∧ g.spot = 1 ∧ 1 ≤ g.fresh ∧ g.fresh ≤ 40 ∧ is.length ≤ 40 ∧ k ≤ 3 := by
  obtain ⟨is1, is2, m, g, rfl, h1, h2, h3, h4, h5', h5, h6, h7, _⟩ := h
  exact ⟨g, (Ch.of h1).append (.off (Ch.of h2)), h3, h5', h5, h6, h7⟩
theorem Ch.split {k : Nat} {A B : List zC7} {it : zC7} : ∀ {g g' : G}, Ch k (A ++ it :: B) g g' → ∃ ga gb, Ch k A g ga ∧ ItS k ga it gb ∧ Ch k B gb g' := by
  intro g g' h
  generalize hL : A ++ it :: B = L at h
  induction h generalizing A with
  | nil => simp at hL
  | off _ ih =>
    refine zC5 fun _ hk => ?_
    obtain ⟨ga, gb, h1, h2, h3⟩ := ih hL
    refine hk ?_
    exact ⟨ga, gb, .off h1, h2, h3⟩
  | cons a h ih =>
    cases A with
    | nil =>
      simp at hL
      obtain ⟨rfl, rfl⟩ := hL
      exact ⟨_, _, .nil, a, h⟩
    | cons x A =>
      simp at hL
      refine zC5 fun _ hk => ?_
      obtain ⟨rfl, hL⟩ := hL
      obtain ⟨ga, gb, h1, h2, h3⟩ := ih hL
      refine hk ?_
      exact ⟨ga, gb, .cons a h1, h2, h3⟩
theorem Inv.offG {k : Nat} {g : G} {f s a : Int} {S : Iv} (I : Inv k g f s a S) : Inv k { g with gets := false } f s a S := ⟨I.st, I.inc, I.tmp, I.out, I.kinds, I.dom, I.tmp2, I.cnt, I.num, I.inck, I.outs, I.f0, I.fg, I.b0, I.t0⟩
set_option tactic.hygienic true in
theorem Inv.ch {k : Nat} {is : List zC7} {g g' : G} (h : Ch k is g g') : ∀ {at' : Int} {S : Iv}, Inv k g g.fresh g.spot at' S → Flat at' S →
    Inv k g' g'.fresh g'.spot (at' + is.length) (ivRun (is.map zC7.row) at' S) ∧ Flat (at' + is.length) (ivRun (is.map zC7.row) at' S) ∧ Mono S (ivRun (is.map zC7.row) at' S) := by
  induction h with
  | nil => intro at' S I F; simpa [ivRun] using ⟨I, F, Mono.refl S⟩
  | off _ ih => intro at' S I F; exact ih I.offG F
  | cons a h ih =>
    rename_i i is g g1 g'
    intro at' S I F
    refine zC5 fun _ hk => ?_
    obtain ⟨a1, a2, a3, _⟩ := I.row a F
    obtain ⟨b1, b2, b3⟩ := ih a1 a2
    refine hk ?_
    rw [show at' + ((i :: is).length : Int) = at' + 1 + (is.length : Int) by simp; lia]
    exact ⟨b1, b2, a3.trans b3⟩
theorem ivRun_append : ∀ (A B : List Row) (at' : Int) (S : Iv), ivRun (A ++ B) at' S = ivRun B (at' + A.length) (ivRun A at' S) := by
  intro zz
  induction zz with
  | nil =>
    intro B at' S
    simp [ivRun]
  | cons r A ih =>
    intro B at' S
    simp only [List.cons_append, ivRun, ih B]
    simp only [show at' + 1 + (A.length : Int) = at' + ((r :: A).length : Int) by simp; lia]
set_option tactic.hygienic true in
theorem inv0 {k : Nat} (hk : k ≤ 6) : Inv k g0 0 1 0 (ivIn k) ∧ Flat 0 (ivIn k) := by
  have get : ∀ (j : Nat) (o : Occ), (ivIn k).found[j]? = some o → j < k ∧ o = ⟨"in", (j : Int) + 1, -1, -1⟩ := fun j o h => by
    simp only [ivIn, List.getElem?_map] at h
    by_cases q : j < k
    · rw [List.getElem?_range q] at h; exact ⟨q, (Option.some.inj h).symm⟩
    · rw [List.getElem?_eq_none (by simp; lia)] at h; injection h
  have mem : ∀ o ∈ (ivIn k).found, ∃ j : Nat, j < k ∧ o = ⟨"in", (j : Int) + 1, -1, -1⟩ := fun o ho => by
    obtain ⟨j, hj⟩ := List.mem_iff_getElem?.mp ho
    obtain ⟨a, b⟩ := get j o hj
    exact ⟨j, a, b⟩
  have nt : zF1 ⟨"in", 0, -1, -1⟩ = false := by simp only [zF1, decide_eq_false_iff_not]; exact strne2.symm
  have fl : Flat 0 (ivIn k) := fun o ho => by obtain ⟨j, _, rfl⟩ := mem o ho; show (-1 : Int) ≤ 0; lia
  refine ⟨⟨fun o ho => .inl (fl o ho), fun n j h => ?_, fun n j h => by simp [ivIn] at h, fun n j h => by simp [ivIn] at h, fun o ho => ?_, fun n => ?_, fun j o h ht => ?_, ?_, fun o ho _ => ?_, fun n h1 h2 => ⟨(n - 1).toNat, by simp [ivIn, h1, h2]⟩, fun n j h => by simp [ivIn] at h, Int.le_refl _, Int.le_refl _, Int.le_refl _, Int.le_refl _⟩, fl⟩
  · dsimp only [ivIn, true_and] at h
    split at h
    · rename_i q
      obtain rfl := Option.some.inj h
      refine ⟨⟨"in", n, -1, -1⟩, ?_, rfl, rfl, rfl⟩
      simp only [ivIn, List.getElem?_map]
      rw [List.getElem?_range (by lia)]
      simp only [Option.map_some, Option.some.injEq, Occ.mk.injEq, true_and, and_true]
      lia
    · injection h
  · obtain ⟨j, _, rfl⟩ := mem o ho; exact .inr (.inr rfl)
  · constructor
    · rintro ⟨j, h⟩; simp [ivIn] at h
    · intro h; lia
  · obtain ⟨_, rfl⟩ := get j o h
    exact absurd ht.symm strne2
  · have : temps (ivIn k).found = [] := by
      rw [temps, List.filter_eq_nil_iff]
      intro o ho
      obtain ⟨j, _, rfl⟩ := mem o ho
      have : zF1 ⟨"in", (j : Int) + 1, -1, -1⟩ = false := nt
      rw [this]; simp
    rw [this]; rfl
  · obtain ⟨j, hj, rfl⟩ := mem o ho
    show (j : Int) + 1 ≤ 6; lia
theorem OpsS.ops {k g} : ∀ {ps : List (Int × Op)} {f s f' s' : Int}, OpsS k g ps (f, s) (f', s') → f ≤ f' ∧ s ≤ s' ∧
    (∀ ro n, (ro, Op.t n) ∈ ps → (ro = 2 → f ≤ n ∧ n < f') ∧ (ro ≠ 2 → g.b ≤ n ∧ n < g.fresh)) ∧ (∀ ro n, (ro, Op.a n) ∈ ps → (ro = 2 → g.gets = false ∧ s ≤ n ∧ n < s' ∧ 1 ≤ n ∧ n ≤ 6) ∧ (ro ≠ 2 → g.gets = true ∧ 1 ≤ n ∧ n ≤ k)) ∧
    (∀ ro n, (ro, Op.x n) ∉ ps) ∧ (∀ n, f ≤ n → n < f' → (2, Op.t n) ∈ ps)
  | [], f, s, f', s', h => by
    cases h
    exact ⟨Int.le_refl _, Int.le_refl _, fun _ _ h => (by contradiction), fun _ _ h => (by contradiction), fun _ _ h => (by cases h), fun n h1 h2 => by lia⟩
  | p :: ps, f, s, f', s', ⟨fs1, h, hs⟩ => by
    obtain ⟨f1, s1⟩ := fs1
    obtain ⟨a1, a2, a3, a4, a5, a6⟩ := OpsS.ops hs
    obtain ⟨g1, g2, g3⟩ := h.grow
    simp only at g1 g2 g3
    refine ⟨by lia, by lia, fun ro n hm => ?_, fun ro n hm => ?_, fun ro n hm => ?_, fun n h1 h2 => ?_⟩
    · rcases List.mem_cons.mp hm with e | hm
      · subst e
        cases h with
        | rt h1 h2 h3 => exact ⟨fun z => absurd z h1, fun _ => ⟨h2, h3⟩⟩
        | wt => exact ⟨fun _ => ⟨Int.le_refl _, by lia⟩, fun z => absurd rfl z⟩
      · obtain ⟨b1, b2⟩ := a3 ro n hm
        exact ⟨fun z => by obtain ⟨c1, c2⟩ := b1 z; lia, b2⟩
    · rcases List.mem_cons.mp hm with e | hm
      · subst e
        cases h with
        | ra h1 h2 h3 h4 => exact ⟨fun z => absurd z h1, fun _ => ⟨h2, h3, h4⟩⟩
        | wa h1 h2 h3 => exact ⟨fun _ => ⟨h1, Int.le_refl _, by lia, h2, h3⟩, fun z => absurd rfl z⟩
      · obtain ⟨b1, b2⟩ := a4 ro n hm
        exact ⟨fun z => by obtain ⟨c0, c1, c2, c3⟩ := b1 z; exact ⟨c0, by lia, c2, c3⟩, b2⟩
    · rcases List.mem_cons.mp hm with e | hm
      · subst e; cases h
      · exact a5 ro n hm
    · by_cases z : f1 ≤ n
      · exact List.mem_cons_of_mem _ (a6 n z h2)
      · cases h with
        | wt => rw [show n = f by lia]; exact .head _
        | _ => lia
structure ItF (k : Nat) (g : G) (i : zC7) (g' : G) : Prop where
  fr : g.fresh ≤ g'.fresh
  b : g.b ≤ g.fresh → g.b ≤ g'.b ∧ g'.b ≤ g'.fresh
  gets : g.gets = false → g'.gets = false
  t : ∀ ro n, (ro, Op.t n) ∈ i.rol → (ro = 2 → g.fresh ≤ n ∧ n < g'.fresh) ∧ (ro ≠ 2 → g.b ≤ n ∧ n < g.fresh)
  a : ∀ ro n, (ro, Op.a n) ∈ i.rol → (ro = 2 → g.gets = false ∧ g.spot ≤ n ∧ n < g'.spot ∧ 1 ≤ n ∧ n ≤ 6) ∧ (ro ≠ 2 → g.gets = true ∧ 1 ≤ n ∧ n ≤ k)
  x : ∀ ro n, (ro, Op.x n) ∉ i.rol
  new : ∀ n, g.fresh ≤ n → n < g'.fresh → (2, Op.t n) ∈ i.rol
  call : i.calls = true → g'.b = g'.fresh ∧ g'.fresh = g.fresh
  ends : i.ends = true → g.gets = false ∧ g'.gets = false
  spot : i.ends = false → g.spot ≤ g'.spot
theorem ItS.facts {k g i g'} (h : ItS k g i g') : ItF k g i g' := by
  obtain ⟨h0, f, s, hops, rfl⟩ := h
  obtain ⟨a1, a2, a3, a4, a5, a6⟩ := hops.ops
  cases he : i.ends with
  | true =>
    have hr := ends_rol he
    rw [hr] at hops
    cases hops
    have e : ∀ P : G → Prop, P ⟨g.fresh, g.fresh, 1, false⟩ → P ⟨g.b, g.fresh, 1, false⟩ → P (g.next i g.fresh g.spot) := fun P h1 h2 => by
      unfold G.next; rw [he]; split
      · exact h1
      · exact h2
    have e1 : (g.next i g.fresh g.spot).fresh = g.fresh := e (fun x => x.fresh = g.fresh) rfl rfl
    have e2 : (g.next i g.fresh g.spot).gets = false := e (fun x => x.gets = false) rfl rfl
    refine ⟨by rw [e1]; exact Int.le_refl _, fun hb => ?_, fun _ => e2, (by rw [hr]; intro _ _ h; contradiction), (by rw [hr]; intro _ _ h; contradiction), (by rw [hr]; intro _ _ h; cases h), (fun n h1 h2 => by simp only [e1] at h2; lia), fun hc => ?_, fun _ => ⟨h0 he, e2⟩, (fun z => by rw [he] at z; injection z)⟩
    · exact e (fun x => g.b ≤ x.b ∧ x.b ≤ x.fresh) ⟨hb, Int.le_refl _⟩ ⟨Int.le_refl _, hb⟩
    · unfold G.next; rw [hc]; exact ⟨rfl, rfl⟩
  | false =>
    have hc : i.calls = false := by
      cases q : i.calls with
      | false => rfl
      | true => have := calls_ends q; rw [he] at this; injection this
    have e : g.next i f s = ⟨g.b, f, s, g.gets⟩ := by unfold G.next; rw [he, hc]; rfl
    simp only [e]
    exact ⟨a1, fun hb => ⟨Int.le_refl _, Int.le_trans hb a1⟩, fun h => h, a3, a4, a5, a6, (fun z => by rw [hc] at z; injection z), (fun z => by rw [he] at z; injection z), fun _ => a2⟩
structure ChF (k : Nat) (is : List zC7) (g g' : G) : Prop where
  fr : g.fresh ≤ g'.fresh
  b : g.b ≤ g.fresh → g.b ≤ g'.b ∧ g'.b ≤ g'.fresh
  gets : g.gets = false → g'.gets = false
  t : ∀ i ∈ is, ∀ ro n, (ro, Op.t n) ∈ i.rol → n < g'.fresh ∧ (ro = 2 → g.fresh ≤ n) ∧ (g.b ≤ g.fresh → g.b ≤ n)
  a : ∀ i ∈ is, ∀ ro n, (ro, Op.a n) ∈ i.rol → (ro = 2 → 1 ≤ n ∧ n ≤ 6) ∧ (ro ≠ 2 → g.gets = true ∧ 1 ≤ n ∧ n ≤ k)
  x : ∀ i ∈ is, ∀ ro n, (ro, Op.x n) ∉ i.rol
  new : ∀ n, g.fresh ≤ n → n < g'.fresh → ∃ i ∈ is, (2, Op.t n) ∈ i.rol
  spot : (∀ i ∈ is, zC7.ends i = false) → g.spot ≤ g'.spot
set_option tactic.hygienic true in
theorem Ch.facts {k is g g'} (h : Ch k is g g') : ChF k is g g' := by
  induction h with
  | nil => exact ⟨Int.le_refl _, fun h => ⟨Int.le_refl _, h⟩, fun h => h, fun _ h => (by contradiction), fun _ h => (by contradiction), fun _ h => (by contradiction), fun n h1 h2 => by lia, fun _ => Int.le_refl _⟩
  | off _ ih =>
    refine ⟨ih.fr, ih.b, fun _ => ih.gets rfl, ih.t, fun i hi ro n hm => ⟨(ih.a i hi ro n hm).1, fun z => ?_⟩, ih.x, ih.new, ih.spot⟩
    have := ((ih.a i hi ro n hm).2 z).1
    injection this
  | cons a _ ih =>
    rename_i i is g g1 g' hch
    have F := a.facts
    refine ⟨Int.le_trans F.fr ih.fr, fun hb => ?_, fun hg => ih.gets (F.gets hg), fun i hi ro n hm => ?_, fun i hi ro n hm => ?_, fun i hi ro n => ?_, fun n h1 h2 => ?_, fun he => ?_⟩
    · obtain ⟨c1, c2⟩ := F.b hb
      obtain ⟨d1, d2⟩ := ih.b c2
      exact ⟨by lia, d2⟩
    · rcases List.mem_cons.mp hi with rfl | hi
      · obtain ⟨c1, c2⟩ := F.t ro n hm
        have fr := ih.fr
        have fr' := F.fr
        by_cases z : ro = 2
        · obtain ⟨d1, d2⟩ := c1 z; exact ⟨by lia, fun _ => d1, fun _ => by lia⟩
        · obtain ⟨d1, d2⟩ := c2 z; exact ⟨by lia, fun q => absurd q z, fun _ => d1⟩
      · obtain ⟨c1, c2, c3⟩ := ih.t i hi ro n hm
        exact ⟨c1, fun z => by have := c2 z; have := F.fr; lia, fun hb => by obtain ⟨e1, e2⟩ := F.b hb; have := c3 e2; lia⟩
    · rcases List.mem_cons.mp hi with rfl | hi
      · obtain ⟨c1, c2⟩ := F.a ro n hm
        exact ⟨fun z => (c1 z).2.2.2, c2⟩
      · obtain ⟨c1, c2⟩ := ih.a i hi ro n hm
        refine ⟨c1, fun z => ?_⟩
        obtain ⟨d1, d2⟩ := c2 z
        refine ⟨?_, d2⟩
        cases q : g.gets with
        | true => rfl
        | false => have := F.gets q; rw [this] at d1; injection d1
    · rcases List.mem_cons.mp hi with rfl | hi
      · exact F.x ro n
      · exact ih.x i hi ro n
    · by_cases z : n < g1.fresh
      · exact ⟨_, .head _, F.new n h1 z⟩
      · obtain ⟨i, hi, hm⟩ := ih.new n (by lia) h2
        exact ⟨i, .tail _ hi, hm⟩
    · have c1 := F.spot (he _ (.head _))
      have c2 := ih.spot fun i hi => he i (.tail _ hi)
      lia
theorem split1 {α : Type} {l : List α} {q : Nat} {x : α} (h : l[q]? = some x) : l = l.take q ++ x :: l.drop (q + 1) ∧ (l.take q).length = q := by
  obtain ⟨hq, e⟩ := List.getElem?_eq_some_iff.mp h
  refine ⟨?_, by simp; lia⟩
  simp only [← e, ← List.drop_eq_getElem_cons hq, List.take_append_drop]
theorem split2 {α : Type} {l : List α} {q u : Nat} {x y : α} (h : l[q]? = some x) (h' : l[u]? = some y) (lt : q < u) : ∃ A B C, l = A ++ x :: (B ++ y :: C) ∧ A.length = q ∧ B.length = u - q - 1 := by
  obtain ⟨e1, e2⟩ := split1 h
  have h2 : (l.drop (q + 1))[u - q - 1]? = some y := by simp only [List.getElem?_drop, show q + 1 + (u - q - 1) = u by lia]; exact h'
  obtain ⟨e3, e4⟩ := split1 h2
  exact ⟨l.take q, _, _, by rw [← e3]; exact e1, e2, e4⟩
structure Sched (k : Nat) (is : List zC7) : Prop where
  w1 : ∀ (q u : Nat) (i i' : zC7) ro n, is[q]? = some i → is[u]? = some i' → (2, Op.t n) ∈ zC7.rol i → (ro, Op.t n) ∈ zC7.rol i' → q ≤ u ∧ (ro = 2 → u = q) ∧ (ro ≠ 2 → q < u)
  r1 : ∀ (u : Nat) (i : zC7) ro n, is[u]? = some i → (ro, Op.t n) ∈ zC7.rol i → ro ≠ 2 → ∃ (q : Nat) (i' : zC7), q < u ∧ is[q]? = some i' ∧ (2, Op.t n) ∈ zC7.rol i'
  c1 : ∀ (c q u : Nat) (ic i i' : zC7) ro n, is[c]? = some ic → zC7.calls ic = true → is[q]? = some i → is[u]? = some i' → (2, Op.t n) ∈ zC7.rol i → (ro, Op.t n) ∈ zC7.rol i' → q < c → u < c
  c2 : ∀ (c u : Nat) (ic i : zC7) ro n, is[c]? = some ic → zC7.ends ic = true → is[u]? = some i → (ro, Op.a n) ∈ zC7.rol i → ro ≠ 2 → u < c
  n1 : ∀ (c u : Nat) (ic i : zC7) ro m n, is[c]? = some ic → (2, Op.a m) ∈ zC7.rol ic → is[u]? = some i → (ro, Op.a n) ∈ zC7.rol i → ro ≠ 2 → u < c
  n2 : ∀ (q u : Nat) (i i' : zC7) n, is[q]? = some i → is[u]? = some i' → (2, Op.a n) ∈ zC7.rol i → (2, Op.a n) ∈ zC7.rol i' → q < u → ∃ (e : Nat) (ie : zC7), q < e ∧ e < u ∧ is[e]? = some ie ∧ zC7.ends ie = true
  en : ∀ (q : Nat) (i : zC7) n, is[q]? = some i → (2, Op.a n) ∈ zC7.rol i → ∃ (e : Nat) (ie : zC7), q < e ∧ is[e]? = some ie ∧ zC7.ends ie = true
  ra : ∀ i ∈ is, ∀ ro n, (ro, Op.a n) ∈ zC7.rol i → (ro = 2 → 1 ≤ n ∧ n ≤ 6) ∧ (ro ≠ 2 → 1 ≤ n ∧ n ≤ (k : Int))
  x : ∀ i ∈ is, ∀ ro n, (ro, Op.x n) ∉ zC7.rol i
theorem any_end {B : List zC7} (h : ¬ ∀ i ∈ B, zC7.ends i = false) : ∃ (j : Nat) (ie : zC7), j < B.length ∧ B[j]? = some ie ∧ ie.ends = true := by
  refine zC5 fun _ hk => ?_
  have : ∃ i ∈ B, zC7.ends i ≠ false := Classical.byContradiction fun z => h fun i hi => Classical.byContradiction fun y => z ⟨i, hi, y⟩
  obtain ⟨i, hi, he⟩ := this
  obtain ⟨j, hj, e⟩ := List.mem_iff_getElem.mp hi
  refine hk ?_
  refine ⟨j, i, hj, by rw [List.getElem?_eq_getElem hj, e], ?_⟩
  cases q : i.ends with
  | true => rfl
  | false => exact absurd q he
theorem get_mid {α : Type} {A B C : List α} {x y z : α} {j : Nat} (h : B[j]? = some z) : (A ++ x :: (B ++ y :: C))[A.length + 1 + j]? = some z := by
  rw [List.getElem?_append_right (by lia), show A.length + 1 + j - A.length = j + 1 by lia, List.getElem?_cons_succ, List.getElem?_append_left (List.getElem?_eq_some_iff.mp h).1]; exact h
theorem get_end {α : Type} {A B : List α} {x z : α} {j : Nat} (h : B[j]? = some z) : (A ++ x :: B)[A.length + 1 + j]? = some z := by
  rw [List.getElem?_append_right (by lia), show A.length + 1 + j - A.length = j + 1 by lia, List.getElem?_cons_succ]; exact h
theorem Ch.sched {k is g} (h : Ch k is g0 g) (hs : g.spot = 1) : Sched k is := by
  have F := h.facts
  have gb : g0.b ≤ g0.fresh := Int.le_refl _
  have sp : ∀ {A B C : List zC7} {x y : zC7}, is = A ++ x :: (B ++ y :: C) → ∃ ga gb gc gd, Ch k A g0 ga ∧ ItF k ga x gb ∧ ChF k B gb gc ∧ ItF k gc y gd ∧ ChF k C gd g ∧ ga.b ≤ ga.fresh ∧ gb.b ≤ gb.fresh ∧ gc.b ≤ gc.fresh ∧ gd.b ≤ gd.fresh := fun {A B C x y} e => by
    refine zC5 fun _ hk => ?_
    rw [e] at h
    obtain ⟨ga, gb', h1, h2, h3⟩ := h.split
    obtain ⟨gc, gd, h4, h5, h6⟩ := h3.split
    have a1 := (h1.facts.b gb).2
    have a2 := (h2.facts.b a1).2
    have a3 := (h4.facts.b a2).2
    refine hk ?_
    exact ⟨ga, gb', gc, gd, h1, h2.facts, h4.facts, h5.facts, h6.facts, a1, a2, a3, (h5.facts.b a3).2⟩
  have one : ∀ {q : Nat} {x : zC7}, is[q]? = some x → ∃ ga gb, Ch k (is.take q) g0 ga ∧ ItF k ga x gb ∧ ChF k (is.drop (q + 1)) gb g ∧ ga.b ≤ ga.fresh := fun {q x} e => by
    refine zC5 fun _ hk => ?_
    obtain ⟨e1, e2⟩ := split1 e
    rw [e1] at h
    obtain ⟨ga, gb', h1, h2, h3⟩ := h.split
    refine hk ?_
    exact ⟨ga, gb', h1, h2.facts, h3.facts, (h1.facts.b gb).2⟩
  refine ⟨fun q u i i' ro n h1 h2 m1 m2 => ?_, fun u i ro n h1 m1 hr => ?_, fun c q u ic i i' ro n hc hcc h1 h2 m1 m2 lt => ?_, fun c u ic i ro n hc he h2 m2 hr => ?_, fun c u ic i ro m n hc mc h2 m2 hr => ?_, fun q u i i' n h1 h2 m1 m2 lt => ?_, fun q i n h1 m1 => ?_, fun i hi ro n hm => ?_, F.x⟩
  · rcases Nat.lt_trichotomy q u with lt | e | lt
    · refine zC5 fun _ hk => ?_
      obtain ⟨A, B, C, e, ea, eb⟩ := split2 h1 h2 lt
      obtain ⟨ga, gb', gc, gd, _, f1, f2, f3, f4, _⟩ := sp e
      have a1 := (f1.t 2 n m1).1 rfl
      have a2 := f2.fr
      refine hk ?_
      refine ⟨by lia, fun z => ?_, fun _ => lt⟩
      have a3 := (f3.t ro n m2).1 z
      lia
    · refine zC5 fun _ hk => ?_
      subst e
      rw [h1] at h2; obtain rfl := Option.some.inj h2
      obtain ⟨ga, gb', _, f1, _⟩ := one h1
      have a1 := (f1.t 2 n m1).1 rfl
      refine hk ?_
      refine ⟨Nat.le_refl _, fun _ => rfl, fun z => ?_⟩
      have a3 := (f1.t ro n m2).2 z
      lia
    · refine zC5 fun _ hk => ?_
      obtain ⟨A, B, C, e, ea, eb⟩ := split2 h2 h1 lt
      obtain ⟨ga, gb', gc, gd, _, f1, f2, f3, f4, _⟩ := sp e
      have a1 := (f3.t 2 n m1).1 rfl
      have a2 := f2.fr
      have a3 := f1.t ro n m2
      refine hk ?_
      by_cases z : ro = 2
      · have := a3.1 z; lia
      · have := a3.2 z; have := f1.fr; lia
  · obtain ⟨ga, gb', c1, f1, _⟩ := one h1
    have a1 := (f1.t ro n m1).2 hr
    have b0 : g0.b ≤ ga.b := (c1.facts.b gb).1
    have : (0 : Int) ≤ ga.b := b0
    obtain ⟨i', hi, hm⟩ := c1.facts.new n (by show (0 : Int) ≤ n; lia) a1.2
    obtain ⟨q, hq, e⟩ := List.mem_iff_getElem.mp hi
    have lq : q < u := by simp at hq; lia
    refine ⟨q, i', lq, ?_, hm⟩
    have : (is.take u)[q]? = some i' := by rw [List.getElem?_eq_getElem hq, e]
    rw [List.getElem?_take_of_lt lq] at this
    exact this
  · rcases Nat.lt_trichotomy u c with lt' | e | lt'
    · exact lt'
    · subst e
      rw [hc] at h2; obtain rfl := Option.some.inj h2
      have := ends_rol (calls_ends hcc)
      rw [this] at m2; exact nomatch m2
    · obtain ⟨A, B, C, e, ea, eb⟩ := split2 hc h2 lt'
      obtain ⟨ga, gb', gc, gd, ca, f1, f2, f3, f4, a1, a2, a3, a4⟩ := sp e
      have hA : i ∈ A := by
        have : A[q]? = some i := by rw [e, List.getElem?_append_left (by lia)] at h1; exact h1
        exact List.mem_of_getElem? this
      have b1 := (ca.facts.t i hA 2 n m1).1
      have b2 := f1.call hcc
      have b3 := f2.fr
      have b4 := (f2.b a2).1
      have b5 := f3.t ro n m2
      by_cases z : ro = 2
      · have := b5.1 z; lia
      · have := b5.2 z; lia
  · rcases Nat.lt_trichotomy u c with lt' | e | lt'
    · exact lt'
    · subst e
      rw [hc] at h2; obtain rfl := Option.some.inj h2
      have := ends_rol he
      rw [this] at m2; exact nomatch m2
    · obtain ⟨A, B, C, e, ea, eb⟩ := split2 hc h2 lt'
      obtain ⟨ga, gb', gc, gd, ca, f1, f2, f3, f4, _⟩ := sp e
      have b1 := f2.gets (f1.ends he).2
      have b2 := ((f3.a ro n m2).2 hr).1
      rw [b1] at b2; injection b2
  · rcases Nat.lt_trichotomy u c with lt' | e | lt'
    · exact lt'
    · subst e
      rw [hc] at h2; obtain rfl := Option.some.inj h2
      obtain ⟨ga, gb', _, f1, _⟩ := one hc
      have b1 := ((f1.a 2 m mc).1 rfl).1
      have b2 := ((f1.a ro n m2).2 hr).1
      rw [b1] at b2; injection b2
    · obtain ⟨A, B, C, e, ea, eb⟩ := split2 hc h2 lt'
      obtain ⟨ga, gb', gc, gd, ca, f1, f2, f3, f4, _⟩ := sp e
      have b1 := f2.gets (f1.gets ((f1.a 2 m mc).1 rfl).1)
      have b2 := ((f3.a ro n m2).2 hr).1
      rw [b1] at b2; injection b2
  · refine zC5 fun _ hk => ?_
    obtain ⟨A, B, C, e, ea, eb⟩ := split2 h1 h2 lt
    obtain ⟨ga, gb', gc, gd, ca, f1, f2, f3, f4, _⟩ := sp e
    have b1 := (f1.a 2 n m1).1 rfl
    have b2 := (f3.a 2 n m2).1 rfl
    refine hk ?_
    by_cases z : ∀ i ∈ B, zC7.ends i = false
    · have := f2.spot z; lia
    · refine zC5 fun _ hk => ?_
      obtain ⟨j, ie, hj, hj', hie⟩ := any_end z
      refine hk ?_
      exact ⟨A.length + 1 + j, ie, by lia, by lia, by rw [e]; exact get_mid hj', hie⟩
  · obtain ⟨e1, e2⟩ := split1 h1
    obtain ⟨ga, gb', ca, f1, f2, _⟩ := one h1
    have b1 := (f1.a 2 n m1).1 rfl
    by_cases z : ∀ i ∈ is.drop (q + 1), zC7.ends i = false
    · have := f2.spot z; lia
    · refine zC5 fun _ hk => ?_
      obtain ⟨j, ie, hj, hj', hie⟩ := any_end z
      refine hk ?_
      refine ⟨q + 1 + j, ie, by lia, ?_, hie⟩
      rw [List.getElem?_drop] at hj'; exact hj'
  · obtain ⟨c1, c2⟩ := F.a i hi ro n hm
    exact ⟨c1, fun z => (c2 z).2⟩
theorem take_mid {α : Type} (A C : List α) (x : α) {e : Nat} (h : A.length < e) : (A ++ x :: C).take e = A ++ x :: C.take (e - A.length - 1) := by
  rw [List.take_append, List.take_of_length_le (by lia), show e - A.length = (e - A.length - 1) + 1 by lia, List.take_succ_cons]
  simp
noncomputable def fin (k : Nat) (is : List zC7) : Iv := ivRun (is.map zC7.row) 0 (ivIn k)
structure At (k : Nat) (is : List zC7) (q : Nat) (x : zC7) (ga gb : G) (S1 : Iv) : Prop where
  inv : Inv k ga ga.fresh ga.spot q S1
  flat : Flat q S1
  step : ItS k ga x gb
  run : Mono (ivRow q S1 x.row) (fin k is)
theorem at_row {k is g} (h : Ch k is g0 g) (hk : k ≤ 6) {q : Nat} {x : zC7} (e : is[q]? = some x) : ∃ ga gb S1, At k is q x ga gb S1 ∧ S1 = ivRun ((is.take q).map zC7.row) 0 (ivIn k) ∧ Ch k (is.drop (q + 1)) gb g := by
  obtain ⟨e1, e2⟩ := split1 e
  have h' := h
  rw [e1] at h'
  obtain ⟨ga, gb, h1, h2, h3⟩ := h'.split
  obtain ⟨I0, F0⟩ := inv0 hk
  obtain ⟨I1, F1, M1⟩ := Inv.ch h1 I0 F0
  rw [e2] at I1 F1
  rw [Int.zero_add] at I1 F1
  obtain ⟨a1, a2, a3, _⟩ := I1.row h2 F1
  obtain ⟨b1, b2, b3⟩ := Inv.ch h3 a1 a2
  refine ⟨ga, gb, _, ⟨I1, F1, h2, ?_⟩, rfl, h3⟩
  have : fin k is = ivRun ((is.drop (q + 1)).map zC7.row) ((q : Int) + 1) (ivRow q (ivRun ((is.take q).map zC7.row) 0 (ivIn k)) x.row) := by
    unfold fin
    conv => lhs; rw [e1]
    simp only [List.map_append, List.map_cons, ivRun_append, ivRun]
    rw [List.length_map, e2, Int.zero_add]
  simp only [this]; exact b3
set_option tactic.hygienic true in
theorem out_keep {k : Nat} {B : List zC7} {g g' : G} (h : Ch k B g g') : ∀ {at' : Int} {S : Iv}, Inv k g g.fresh g.spot at' S → Flat at' S → (∀ i ∈ B, zC7.ends i = false) → ∀ n j, n < g.spot → S.mp .out n = some j →
    (ivRun (B.map zC7.row) at' S).mp .out n = some j ∧ n < g'.spot := by
  induction h with
  | nil => intro at' S I F he n j hn hj; exact ⟨hj, hn⟩
  | off _ ih => intro at' S I F he n j hn hj; exact ih I.offG F he n j hn hj
  | cons a _ ih =>
    rename_i i is g g1 g' hch
    intro at' S I F he n j hn hj
    refine zC5 fun _ hk => ?_
    obtain ⟨a1, a2, a3, a4, a5, a6, a7⟩ := I.row a F
    have hi := he i (.head _)
    refine hk ?_
    exact ih a1 a2 (fun x hx => he x (.tail _ hx)) n j (by have := a7 hi; lia) (a5 hi n j hn hj)
structure Cover (k : Nat) (is : List zC7) : Prop where
  t : ∀ (q : Nat) (i : zC7) n, is[q]? = some i → (2, Op.t n) ∈ i.rol → ∃ o ∈ ivals (is.map zC7.row) k, zF1 o = true ∧ o.num = n ∧ o.start = q ∧ (q : Int) + 1 ≤ o.stop ∧ ∀ (u : Nat) (i' : zC7) ro, is[u]? = some i' → (ro, Op.t n) ∈ i'.rol → (u : Int) ≤ o.stop
  i : ∀ (u : Nat) (i : zC7) ro n, is[u]? = some i → (ro, Op.a n) ∈ i.rol → ro ≠ 2 → ∃ o ∈ ivals (is.map zC7.row) k, zF1 o = false ∧ o.num = n ∧ o.start = -1 ∧ (u : Int) ≤ o.stop
  o : ∀ (q : Nat) (i : zC7) n, is[q]? = some i → (2, Op.a n) ∈ i.rol → ∃ o ∈ ivals (is.map zC7.row) k, zF1 o = false ∧ o.num = n ∧ o.start = q ∧ (q : Int) + 1 ≤ o.stop ∧
    ∀ (e : Nat) (ie : zC7), q < e → is[e]? = some ie → ie.ends = true → (∀ (j : Nat) (ij : zC7), q < j → j < e → is[j]? = some ij → ij.ends = false) → (e : Int) ≤ o.stop
theorem isTemp_kind {o : Occ} (h : o.kind = "temp") : zF1 o = true := by simp [zF1, h]
theorem isTemp_out {o : Occ} (h : o.kind = "out") : zF1 o = false := by rw [zF1, h, decide_eq_false_iff_not]; exact strne1.symm
theorem isTemp_in {o : Occ} (h : o.kind = "in") : zF1 o = false := by rw [zF1, h, decide_eq_false_iff_not]; exact strne2.symm
theorem mem_ivals {k is} {j : Nat} {o : Occ} (h : (fin k is).found[j]? = some o) (lt : o.start < o.stop) : o ∈ ivals (is.map zC7.row) k := by
  unfold ivals
  exact List.mem_filter.mpr ⟨List.mem_of_getElem? h, by simpa using lt⟩
theorem Ch.cover {k is g} (h : Ch k is g0 g) (hk : k ≤ 6) : Cover k is := by
  obtain ⟨I0, F0⟩ := inv0 hk
  obtain ⟨If, Ff, Mf⟩ := Inv.ch h I0 F0
  have tmpk : ∀ n j o, (fin k is).mp .tmp n = some j → (fin k is).found[j]? = some o → o.kind = "temp" ∧ o.num = n := fun n j o h1 h2 => by
    obtain ⟨o', a1, a2, a3⟩ := If.tmp n j h1
    have : (fin k is).found[j]? = some o' := a1
    rw [h2] at this; obtain rfl := Option.some.inj this; exact ⟨a2, a3⟩
  refine ⟨fun q i n hq hm => ?_, fun u i ro n hu hm hr => ?_, fun q i n hq hm => ?_⟩
  · obtain ⟨ga, gb, S1, A, _⟩ := at_row h hk hq
    obtain ⟨a1, a2, a3, a4, _⟩ := A.inv.row A.step A.flat
    obtain ⟨j, o, b1, b2, b3, b4⟩ := (a4 _ hm).2 rfl
    obtain ⟨o', c1, c2, c3, c4, c5⟩ := A.run.up j o b2
    have c0 := A.run.tmp n j b1
    obtain ⟨d1, d2⟩ := tmpk n j o' c0 c1
    refine ⟨o', mem_ivals c1 (by lia), isTemp_kind d1, d2, c4.trans b3, by lia, fun u i' ro hu hm' => ?_⟩
    obtain ⟨ga', gb', S1', A', _⟩ := at_row h hk hu
    obtain ⟨_, _, _, a4', _⟩ := A'.inv.row A'.step A'.flat
    obtain ⟨j', p, e1, e2, e3⟩ := (a4' _ hm').1
    obtain ⟨p', f1, f2, f3, f4, f5⟩ := A'.run.up j' p e2
    have f0 := A'.run.tmp n j' e1
    rw [c0] at f0; obtain rfl := Option.some.inj f0
    rw [c1] at f1; obtain rfl := Option.some.inj f1
    lia
  · obtain ⟨ga, gb, S1, A, _⟩ := at_row h hk hu
    obtain ⟨a1, a2, a3, a4, _⟩ := A.inv.row A.step A.flat
    have E := a4 _ hm
    simp only [Eff, hr, if_false] at E
    obtain ⟨j, o, b1, b2, b3, b4, b5⟩ := E
    obtain ⟨o', c1, c2, c3, c4, c5⟩ := A.run.up j o b1
    exact ⟨o', mem_ivals c1 (by lia), isTemp_in (c2.trans b2), c3.trans b3, c4.trans b4, by lia⟩
  · obtain ⟨ga, gb, S1, A, hS1, hch⟩ := at_row h hk hq
    obtain ⟨a1, a2, a3, a4, _⟩ := A.inv.row A.step A.flat
    have E := a4 _ hm
    obtain ⟨j, o, b1, b2, b3, b4, b5, b6⟩ := E
    obtain ⟨o', c1, c2, c3, c4, c5⟩ := A.run.up j o b2
    refine ⟨o', mem_ivals c1 (by lia), isTemp_out (c2.trans b3), c3.trans b4, c4.trans b5, by lia, fun e ie lt he hie hno => ?_⟩
    have hsp := ((A.step.facts.a 2 n hm).1 rfl)
    obtain ⟨ga', gb', S4, A', hS4, hch'⟩ := at_row h hk he
    have hB : (is.drop (q + 1))[e - q - 1]? = some ie := by simp only [List.getElem?_drop, show q + 1 + (e - q - 1) = e by lia]; exact he
    obtain ⟨s1, s2⟩ := split1 hB
    have hchB := hch
    rw [s1] at hchB
    obtain ⟨gc, gd, k1, k2, k3⟩ := hchB.split
    have noends : ∀ i ∈ (is.drop (q + 1)).take (e - q - 1), zC7.ends i = false := fun i hi => by
      obtain ⟨z, hz, ez⟩ := List.mem_iff_getElem.mp hi
      have hz' : z < e - q - 1 := by simp at hz; lia
      have : ((is.drop (q + 1)).take (e - q - 1))[z]? = some i := by simp only [List.getElem?_eq_getElem hz, ez]
      rw [List.getElem?_take_of_lt hz', List.getElem?_drop] at this
      exact hno (q + 1 + z) i (by lia) (by lia) this
    obtain ⟨m1, m2⟩ := out_keep k1 a1 a2 noends n j (by lia) b1
    have hS4' : S4 = ivRun (((is.drop (q + 1)).take (e - q - 1)).map zC7.row) ((q : Int) + 1) (ivRow q S1 i.row) := by
      have et : is.take e = is.take q ++ i :: (is.drop (q + 1)).take (e - q - 1) := by
        obtain ⟨t1, t2⟩ := split1 hq
        have := take_mid (is.take q) (is.drop (q + 1)) i (e := e) (by lia)
        rw [← t1, t2] at this
        exact this
      simp only [hS4, et, List.map_append, List.map_cons, ivRun_append, ivRun, hS1]
      simp only [List.length_map, (split1 hq).2, Int.zero_add]
    obtain ⟨_, _, _, _, _, w6, _⟩ := A'.inv.row A'.step A'.flat
    rw [← hS4'] at m1
    obtain ⟨p, p1, p2⟩ := w6 hie n j m1
    obtain ⟨p', r1, r2, r3, r4, r5⟩ := A'.run.up j p p1
    rw [c1] at r1; obtain rfl := Option.some.inj r1
    lia
theorem stopAt_len (l : List Occ) (i : Nat) (a : Int) : (stopAt l i a).length = l.length := by
  unfold stopAt
  cases l[i]? with
  | none => rfl
  | some o => exact List.length_set
theorem ivOp_len (a : Int) (S : Iv) (p : Int × Op) : (ivOp a S p).found.length ≤ S.found.length + 1 :=
  ivOp_ind (P := fun T => T.found.length ≤ S.found.length + 1) (fun o _ _ _ => Nat.le_of_eq (List.length_append (bs := [o]))) (fun i => by show (stopAt _ _ _).length ≤ _; rw [stopAt_len]; exact Nat.le_succ _) (Nat.le_succ _) p
theorem fold_len (a : Int) : ∀ (ps : List (Int × Op)) (S : Iv), (ps.foldl (ivOp a) S).found.length ≤ S.found.length + ps.length := by
  intro zz
  induction zz with
  | nil =>
    intro S
    simp
  | cons p ps ih =>
    intro S
    have h1 := ih (ivOp a S p)
    have h2 := ivOp_len a S p
    simp only [List.foldl_cons, List.length_cons]; lia
theorem row_len (a : Int) (S : Iv) (r : Row) : (ivRow a S r).found.length ≤ S.found.length + 2 := by
  unfold ivRow
  have h1 := fold_len a (roles r) (if ends r then ({ S with found := endOuts S a } : Iv).clr .out else S)
  have h2 := roles_len r
  have h3 : (if ends r then ({ S with found := endOuts S a } : Iv).clr .out else S).found.length = S.found.length := by
    split
    · show (endOuts S a).length = _
      unfold endOuts; rw [List.length_mapIdx]
    · rfl
  lia
theorem run_len : ∀ (rs : List Row) (a : Int) (S : Iv), (ivRun rs a S).found.length ≤ S.found.length + 2 * rs.length := by
  intro zz
  induction zz with
  | nil =>
    intro a S
    simp [ivRun]
  | cons r rs ih =>
    intro a S
    have h1 := ih (a + 1) (ivRow a S r)
    have h2 := row_len a S r
    simp only [ivRun, List.length_cons]; lia
noncomputable def yOk : Op → Bool
  | .y n => decide (n ≤ 6)
  | .t _ => true
  | .a _ => true
  | .x _ => true
theorem yB (i : zC7) : (i.rol.all fun p => yOk p.2) = true := by cases i <;> kernel_rfl
theorem y_small (i : zC7) (ro n : Int) (h : (ro, Op.y n) ∈ i.rol) : n ≤ 6 := of_decide_eq_true (List.all_eq_true.mp (yB i) _ h)
theorem pair_temps {S : Iv} (h : ∀ (j : Nat) (o : Occ), S.found[j]? = some o → o.kind = "temp" → S.mp .tmp o.num = some j) : S.found.Pairwise fun x y => zF1 x = true → zF1 y = true → x.num ≠ y.num := by
  rw [List.pairwise_iff_getElem]
  intro i j hi hj lt h1 h2 e
  have k1 : (S.found[i]).kind = "temp" := by simpa [zF1] using h1
  have k2 : (S.found[j]).kind = "temp" := by simpa [zF1] using h2
  have a := h i _ (List.getElem?_eq_getElem hi) k1
  have b := h j _ (List.getElem?_eq_getElem hj) k2
  simp only [e, b] at a
  lia
theorem pre_of {k : Nat} {is : List zC7} (h : CodeOk k is) : AllocPre (is.map zC7.row) k := by
  obtain ⟨g, hc, hs, hf1, hf, hl, hk⟩ := h.ch
  have sch := hc.sched hs
  have cov := hc.cover (by lia)
  obtain ⟨I0, F0⟩ := inv0 (k := k) (by lia)
  obtain ⟨If, Ff, Mf⟩ := Inv.ch hc I0 F0
  have memr : ∀ r ∈ is.map zC7.row, ∃ i ∈ is, r = zC7.row i := fun r hr => by obtain ⟨i, hi, e⟩ := List.mem_map.mp hr; exact ⟨i, hi, e.symm⟩
  have sub : ∀ o ∈ ivals (is.map zC7.row) k, o ∈ (ivRun (is.map zC7.row) 0 (ivIn k)).found := fun o ho => (List.mem_filter.mp ho).1
  have pos : ∀ i ∈ is, ∃ q : Nat, is[q]? = some i := fun i hi => by obtain ⟨q, hq, e⟩ := List.mem_iff_getElem.mp hi; exact ⟨q, by simp only [List.getElem?_eq_getElem hq, e]⟩
  refine ⟨fun r hr => ?_, by simp; lia, fun r hr => ?_, by lia, fun r hr p hp n e hn => ?_, fun o ho ht => If.num o (sub o ho) ht, fun o ho => ?_, ?_, ?_, ?_, ?_, fun r hr n hn => ?_, fun r hr p hp => ?_⟩
  · obtain ⟨i, _, rfl⟩ := memr r hr; exact zC7.ok i
  · obtain ⟨i, _, rfl⟩ := memr r hr; exact (zC7.ok i).few
  · obtain ⟨i, hi, rfl⟩ := memr r hr
    rw [zC7.roles_eq] at hp
    obtain ⟨ro, o⟩ := p
    simp only at e hn
    subst e
    exact (sch.ra i hi ro n hp).2 hn
  · rcases If.kinds o (sub o ho) with h | h | h <;> rw [h]
    · exact k_temp
    · decide +kernel
    · decide +kernel
  · have h1 := run_len (is.map zC7.row) 0 (ivIn k)
    have h2 : (ivals (is.map zC7.row) k).length ≤ (ivRun (is.map zC7.row) 0 (ivIn k)).found.length := List.length_filter_le ..
    have h3 : (ivIn k).found.length = k := by simp [ivIn]
    rw [List.length_map] at h1
    lia
  · have h1 := pair_temps If.tmp2
    rw [List.nodup_iff_pairwise_ne, List.pairwise_map]
    have h2 := (h1.filter (fun o => decide (o.start < o.stop))).filter zF1
    refine h2.imp_of_mem fun {x y} hx hy hr => ?_
    exact hr (List.mem_filter.mp hx).2 (List.mem_filter.mp hy).2
  · have h1 := If.cnt
    have h2 : (temps (ivals (is.map zC7.row) k)).length ≤ (temps (ivRun (is.map zC7.row) 0 (ivIn k)).found).length := by
      exact (List.filter_sublist.filter zF1).length_le
    lia
  · refine zC5 fun _ hk => ?_
    obtain ⟨i, hi, hm⟩ := hc.facts.new 0 (Int.le_refl _) (by lia)
    obtain ⟨q, hq⟩ := pos i hi
    obtain ⟨o, ho, h1, _⟩ := cov.t q i 0 hq hm
    refine hk ?_
    exact List.length_pos_of_mem (List.mem_filter.mpr ⟨ho, h1⟩)
  · refine zC5 fun _ hk => ?_
    obtain ⟨i, hi, rfl⟩ := memr r hr
    obtain ⟨ro, hm⟩ := zC7.has i n hn
    rw [zC7.roles_eq] at hm
    obtain ⟨u, hu⟩ := pos i hi
    have : ∃ (q : Nat) (i' : zC7), is[q]? = some i' ∧ (2, Op.t n) ∈ i'.rol := by
      by_cases z : ro = 2
      · subst z; exact ⟨u, i, hu, hm⟩
      · obtain ⟨q, i', _, a, b⟩ := sch.r1 u i ro n hu hm z; exact ⟨q, i', a, b⟩
    obtain ⟨q, i', hq, hm'⟩ := this
    obtain ⟨o, ho, h1, h2, _⟩ := cov.t q i' n hq hm'
    refine hk ?_
    exact ⟨o, List.mem_filter.mpr ⟨ho, h1⟩, h2⟩
  · obtain ⟨i, hi, rfl⟩ := memr r hr
    rw [zC7.roles_eq] at hp
    obtain ⟨ro, o⟩ := p
    cases o with
    | t n => exact .inl ⟨n, rfl⟩
    | a n =>
      refine .inr ?_
      obtain ⟨h1, h2⟩ := sch.ra i hi ro n hp
      by_cases z : ro = 2
      · exact (h1 z).2
      · have := (h2 z).2; show n ≤ 6; lia
    | y n => exact .inr (y_small i ro n hp)
    | x n => exact absurd hp (sch.x i hi ro n)
section
theorem pair_or {α : Type} {R : α → α → Prop} : ∀ {l : List α}, l.Pairwise R → ∀ {x y : α}, x ∈ l → y ∈ l → x ≠ y → R x y ∨ R y x := by
  intro zz
  induction zz with
  | nil =>
    intro _ _ _ h _ _
    contradiction
  | cons a l ih =>
    intro hp x y hx hy ne
    rw [List.pairwise_cons] at hp
    rcases List.mem_cons.mp hx with e1 | hx'
    · rcases List.mem_cons.mp hy with e2 | hy'
      · exact absurd (e1.trans e2.symm) ne
      · rw [e1]; exact .inl (hp.1 y hy')
    · rcases List.mem_cons.mp hy with e2 | hy'
      · rw [e2]; exact .inr (hp.1 x hx')
      · exact ih hp.2 hx' hy' ne
theorem over_symm (x y : Occ) : x.over y = y.over x := by
  simp only [Occ.over]
  by_cases h1 : x.start < y.stop <;> by_cases h2 : y.start < x.stop <;> simp [h1, h2]
theorem over_of {x y : Occ} (h1 : x.start < y.stop) (h2 : y.start < x.stop) : x.over y = true := by simp [Occ.over, h1, h2]
noncomputable def home (hm : IM) (n : Int) : Int := (hm n).getD 0
noncomputable def reg (hm : IM) : Op → Int
  | .t n => home hm n
  | .a n => n
  | .y n => n
  | .x n => n
structure Disj (os : List Occ) (hm : IM) : Prop where
  tt : ∀ x ∈ os, ∀ y ∈ os, zF1 x = true → zF1 y = true → x.num ≠ y.num → home hm x.num = home hm y.num → x.over y = false
  ta : ∀ x ∈ os, ∀ y ∈ os, zF1 x = true → zF1 y = false → home hm x.num = y.num → x.over y = false
theorem AllocOk.disj {os : List Occ} {hm : IM} (h : AllocOk os hm) : Disj os hm := by
  obtain ⟨O, h1, h2, h3⟩ := h
  refine ⟨fun x hx y hy tx ty ne e => ?_, fun x hx y hy tx ty e => ?_⟩
  · obtain ⟨r, a1, a2⟩ := h2 x hx tx
    obtain ⟨r', b1, b2⟩ := h2 y hy ty
    have : r = r' := by simpa [home, a1, b1] using e
    subst this
    rcases pair_or (h3 r) a2 b2 (fun z => ne (by rw [z])) with q | q
    · rw [over_symm]; exact q.2 ty
    · exact q.2 tx
  · obtain ⟨r, a1, a2⟩ := h2 x hx tx
    have b2 := h1 y hy ty
    have : r = y.num := by simpa [home, a1] using e
    rw [← this] at b2
    rcases pair_or (h3 r) a2 b2 (fun z => by rw [z, ty] at tx; injection tx) with q | q
    · have := q.1 tx; rw [ty] at this; injection this
    · exact q.2 tx
noncomputable def isAo : Op → Bool
  | .a _ => true
  | .t _ => false
  | .y _ => false
  | .x _ => false
theorem raB (i : zC7) : (i.rol.all fun p => !isAo p.2 || decide (p.1 = 1 ∨ p.1 = 2)) = true := by cases i <;> kernel_rfl
theorem a_role (i : zC7) (ro n : Int) (h : (ro, Op.a n) ∈ i.rol) : ro = 1 ∨ ro = 2 := of_decide_eq_true (List.all_eq_true.mp (raB i) _ h)
structure Ctx (k : Nat) (is : List zC7) (hm : IM) : Prop where
  sch : Sched k is
  cov : Cover k is
  dis : Disj (ivals (is.map zC7.row) k) hm
noncomputable def LiveT (is : List zC7) (i : Nat) (n : Int) : Prop := ∃ (w : Nat) (iw : zC7), is[w]? = some iw ∧ (2, Op.t n) ∈ iw.rol ∧ w < i ∧ (i = w + 1 ∨ ∃ (u : Nat) (iu : zC7) (ro : Int), i ≤ u ∧ is[u]? = some iu ∧ (ro, Op.t n) ∈ iu.rol)
noncomputable def LiveI (is : List zC7) (i : Nat) (n : Int) : Prop := ∃ (u : Nat) (iu : zC7) (ro : Int), i ≤ u ∧ is[u]? = some iu ∧ (ro, Op.a n) ∈ iu.rol ∧ ro ≠ 2
noncomputable def LiveO (is : List zC7) (i : Nat) (n : Int) : Prop := ∃ (q : Nat) (iq : zC7), q < i ∧ is[q]? = some iq ∧ (2, Op.a n) ∈ iq.rol ∧ ∀ (j : Nat) (ij : zC7), q < j → j < i → is[j]? = some ij → ij.ends = false
section
variable {k : Nat} {is : List zC7} {hm : IM} (X : Ctx k is hm)
include X
theorem occT {i : Nat} {n : Int} (h : LiveT is i n) : ∃ o ∈ ivals (is.map zC7.row) k, zF1 o = true ∧ o.num = n ∧ o.start < i ∧ (i : Int) ≤ o.stop := by
  refine zC5 fun _ hk => ?_
  obtain ⟨w, iw, h1, h2, h3, h4⟩ := h
  obtain ⟨o, a1, a2, a3, a4, a5, a6⟩ := X.cov.t w iw n h1 h2
  refine hk ?_
  refine ⟨o, a1, a2, a3, by lia, ?_⟩
  rcases h4 with h4 | ⟨u, iu, ro, b1, b2, b3⟩
  · lia
  · have := a6 u iu ro b2 b3; lia
theorem occW {i : Nat} {it : zC7} {n : Int} (h1 : is[i]? = some it) (h2 : (2, Op.t n) ∈ it.rol) : ∃ o ∈ ivals (is.map zC7.row) k, zF1 o = true ∧ o.num = n ∧ o.start = i ∧ (i : Int) + 1 ≤ o.stop := by
  refine zC5 fun _ hk => ?_
  obtain ⟨o, a1, a2, a3, a4, a5, a6⟩ := X.cov.t i it n h1 h2
  refine hk ?_
  exact ⟨o, a1, a2, a3, a4, a5⟩
theorem occI {i : Nat} {n : Int} (h : LiveI is i n) : ∃ o ∈ ivals (is.map zC7.row) k, zF1 o = false ∧ o.num = n ∧ o.start = -1 ∧ (i : Int) ≤ o.stop := by
  refine zC5 fun _ hk => ?_
  obtain ⟨u, iu, ro, h1, h2, h3, h4⟩ := h
  obtain ⟨o, a1, a2, a3, a4, a5⟩ := X.cov.i u iu ro n h2 h3 h4
  refine hk ?_
  exact ⟨o, a1, a2, a3, a4, by lia⟩
theorem occO {i : Nat} {n : Int} {q : Nat} {iq : zC7} (h1 : q < i) (h2 : is[q]? = some iq) (h3 : (2, Op.a n) ∈ iq.rol) (h4 : ∀ (j : Nat) (ij : zC7), q < j → j < i → is[j]? = some ij → ij.ends = false) : ∃ o ∈ ivals (is.map zC7.row) k, zF1 o = false ∧ o.num = n ∧ o.start = q ∧ (i : Int) ≤ o.stop := by
  refine zC5 fun _ hk => ?_
  obtain ⟨o, a1, a2, a3, a4, a5, a6⟩ := X.cov.o q iq n h2 h3
  have ex : ∃ e : Nat, q < e ∧ ∃ ie, is[e]? = some ie ∧ zC7.ends ie = true := by
    obtain ⟨e, ie, b1, b2, b3⟩ := X.sch.en q iq n h2 h3; exact ⟨e, b1, ie, b2, b3⟩
  refine hk ?_
  refine zC5 fun _ hk => ?_
  have first : ∀ m : Nat, (∃ e : Nat, e ≤ m ∧ q < e ∧ ∃ ie, is[e]? = some ie ∧ zC7.ends ie = true) → ∃ e : Nat, q < e ∧ (∃ ie, is[e]? = some ie ∧ zC7.ends ie = true) ∧ ∀ (j : Nat) (ij : zC7), q < j → j < e → is[j]? = some ij → ij.ends = false := by
    intro m
    induction m with
    | zero => rintro ⟨e, c1, c2, _⟩; lia
    | succ m ih =>
      rintro ⟨e, c1, c2, c3⟩
      by_cases z : ∃ e : Nat, e ≤ m ∧ q < e ∧ ∃ ie, is[e]? = some ie ∧ zC7.ends ie = true
      · exact ih z
      · refine ⟨e, c2, c3, fun j ij d1 d2 d3 => ?_⟩
        cases y : ij.ends with
        | false => rfl
        | true => exact absurd ⟨j, by lia, d1, ij, d3, y⟩ z
  obtain ⟨e, b1, b2⟩ := ex
  obtain ⟨e, c1, ⟨ie, c2, c3⟩, c4⟩ := first e ⟨e, Nat.le_refl _, b1, b2⟩
  have hs := a6 e ie c1 c2 c3 c4
  refine hk ?_
  refine ⟨o, a1, a2, a3, a4, ?_⟩
  by_cases z : e < i
  · have := h4 e ie c1 z c2; rw [c3] at this; injection this
  · lia
theorem occA {i : Nat} {it : zC7} {n : Int} (h1 : is[i]? = some it) (h2 : (2, Op.a n) ∈ it.rol) : ∃ o ∈ ivals (is.map zC7.row) k, zF1 o = false ∧ o.num = n ∧ o.start = i ∧ (i : Int) + 1 ≤ o.stop := by
  refine zC5 fun _ hk => ?_
  obtain ⟨o, a1, a2, a3, a4, a5, a6⟩ := X.cov.o i it n h1 h2
  refine hk ?_
  exact ⟨o, a1, a2, a3, a4, a5⟩
theorem readT {i : Nat} {it : zC7} {ro n : Int} (h1 : is[i]? = some it) (h2 : (ro, Op.t n) ∈ it.rol) (h3 : ro ≠ 2) : LiveT is i n := by
  obtain ⟨q, iq, a1, a2, a3⟩ := X.sch.r1 i it ro n h1 h2 h3
  exact ⟨q, iq, a2, a3, a1, .inr ⟨i, it, ro, Nat.le_refl _, h1, h2⟩⟩
theorem readA {i : Nat} {it : zC7} {ro n : Int} (h1 : is[i]? = some it) (h2 : (ro, Op.a n) ∈ it.rol) (h3 : ro ≠ 2) : LiveI is i n := ⟨i, it, ro, Nat.le_refl _, h1, h2, h3⟩
theorem clashT {i : Nat} {it : zC7} {ro n : Int} (h1 : is[i]? = some it) (h2 : (ro, Op.t n) ∈ it.rol) {o : Occ} (ho : o ∈ ivals (is.map zC7.row) k) (s1 : o.start < i) (s2 : (i : Int) + 1 ≤ o.stop) (hr : (zF1 o = true → o.num ≠ n ∧ home hm o.num = home hm n) ∧ (zF1 o = false → o.num = home hm n)) : False := by
  have : ∃ x ∈ ivals (is.map zC7.row) k, zF1 x = true ∧ x.num = n ∧ x.start ≤ i ∧ (i : Int) ≤ x.stop := by
    by_cases z : ro = 2
    · refine zC5 fun _ hk => ?_
      subst z
      obtain ⟨x, a1, a2, a3, a4, a5⟩ := occW X h1 h2
      refine hk ?_
      exact ⟨x, a1, a2, a3, by lia, by lia⟩
    · refine zC5 fun _ hk => ?_
      obtain ⟨x, a1, a2, a3, a4, a5⟩ := occT X (readT X h1 h2 z)
      refine hk ?_
      exact ⟨x, a1, a2, a3, by lia, a5⟩
  obtain ⟨x, a1, a2, a3, a4, a5⟩ := this
  have ov : x.over o = true := over_of (by lia) (by lia)
  cases ht : zF1 o with
  | true =>
    obtain ⟨b1, b2⟩ := hr.1 ht
    have := X.dis.tt x a1 o ho a2 ht (by rw [a3]; exact fun z => b1 z.symm) (by rw [a3]; exact b2.symm)
    rw [ov] at this; injection this
  | false =>
    have := X.dis.ta x a1 o ho a2 ht (by rw [a3]; exact (hr.2 ht).symm)
    rw [ov] at this; injection this
theorem clashA {i : Nat} {it : zC7} {n : Int} (h1 : is[i]? = some it) (h2 : (2, Op.a n) ∈ it.rol) {o : Occ} (ho : o ∈ ivals (is.map zC7.row) k) (s1 : o.start ≤ i) (s2 : (i : Int) + 1 ≤ o.stop) (ht : zF1 o = true) (hr : home hm o.num = n) : False := by
  obtain ⟨x, a1, a2, a3, a4, a5⟩ := occA X h1 h2
  have ov : o.over x = true := over_of (by lia) (by lia)
  have := X.dis.ta o ho x a1 ht a2 (by simp only [a3]; exact hr)
  rw [ov] at this; injection this
end
end
section
noncomputable def isTA : Op → Bool
  | .t _ => true
  | .a _ => true
  | _ => false
structure AE (hm : IM) (v : Int) (ps : List (Int × Op)) (S S' : Ck) : Prop where
  nv : S'.nv = S.nv
  inc : S'.inc = S.inc
  vo1 : ∀ n ro, (ro, Op.t n) ∈ ps → ro ≠ 1 → S'.vo n = some v
  vo0 : ∀ n, (∀ ro, (ro, Op.t n) ∈ ps → ro = 1) → S'.vo n = S.vo n
  out1 : ∀ n ro, (ro, Op.a n) ∈ ps → ro ≠ 1 → S'.out n = some v
  out0 : ∀ n, (∀ ro, (ro, Op.a n) ∈ ps → ro = 1) → S'.out n = S.out n
  he1 : ∀ ro o, (ro, o) ∈ ps → ro ≠ 1 → isTA o = true → S'.he (reg hm o) = some v
  he0 : ∀ r, (∀ ro o, (ro, o) ∈ ps → ro ≠ 1 → isTA o = true → reg hm o ≠ r) → S'.he r = S.he r
theorem upd_same (f : IM) (k v : Int) : upd f k v k = some v := by simp [upd]
theorem upd_ne (f : IM) {k x : Int} (v : Int) (h : x ≠ k) : upd f k v x = f x := by simp [upd, h]
theorem adv_eff {hm : IM} {v : Int} : ∀ (ps : List (Int × Op)) (S : Ck), (∀ ro n, (ro, Op.x n) ∉ ps) → AE hm v ps S (advLoop v ps (ps.map fun p => (p.1, zH5 hm p.2)) S) := by
  intro zz
  induction zz with
  | nil =>
    intro S _
    exact ⟨rfl, rfl, fun _ _ h => (by cases h), fun _ _ => rfl, fun _ _ h => (by cases h), fun _ _ => rfl, fun _ _ h => (by contradiction), fun _ _ => rfl⟩
  | cons p ps ih =>
    intro S hx
    obtain ⟨ro, o⟩ := p
    have ih := ih (if ro = 1 then S else writeC S o (zH5 hm o) v) fun r n h => hx r n (.tail _ h)
    show AE hm v ((ro, o) :: ps) S (advLoop v ps (ps.map fun p => (p.1, zH5 hm p.2)) (if ro = 1 then S else writeC S o (zH5 hm o) v))
    generalize advLoop v ps (ps.map fun p => (p.1, zH5 hm p.2)) (if ro = 1 then S else writeC S o (zH5 hm o) v) = S' at ih
    by_cases h1 : ro = 1
    · rw [if_pos h1] at ih
      refine ⟨ih.nv, ih.inc, fun n r h hr => ?_, fun n h => ih.vo0 n fun r hm => h r (.tail _ hm), fun n r h hr => ?_, fun n h => ih.out0 n fun r hm => h r (.tail _ hm), fun r o' h hr ht => ?_, fun r h => ih.he0 r fun r' o' hm => h r' o' (.tail _ hm)⟩
      · rcases List.mem_cons.mp h with e | h
        · cases e; exact absurd h1 hr
        · exact ih.vo1 n r h hr
      · rcases List.mem_cons.mp h with e | h
        · cases e; exact absurd h1 hr
        · exact ih.out1 n r h hr
      · rcases List.mem_cons.mp h with e | h
        · cases e; exact absurd h1 hr
        · exact ih.he1 r o' h hr ht
    · rw [if_neg h1] at ih
      have hd : (writeC S o (zH5 hm o) v).nv = S.nv ∧ (writeC S o (zH5 hm o) v).inc = S.inc ∧ (∀ n, o = .t n → (writeC S o (zH5 hm o) v).vo n = some v) ∧ (∀ n, o ≠ .t n → (writeC S o (zH5 hm o) v).vo n = S.vo n) ∧
          (∀ n, o = .a n → (writeC S o (zH5 hm o) v).out n = some v) ∧ (∀ n, o ≠ .a n → (writeC S o (zH5 hm o) v).out n = S.out n) ∧ (isTA o = true → (writeC S o (zH5 hm o) v).he (reg hm o) = some v) ∧ (∀ r, (isTA o = true → reg hm o ≠ r) → (writeC S o (zH5 hm o) v).he r = S.he r) := by
        cases o with
        | y n => exact ⟨rfl, rfl, fun _ h => (by injection h), fun _ _ => rfl, fun _ h => (by injection h), fun _ _ => rfl, fun h => (by injection h), fun _ _ => rfl⟩
        | x n => exact absurd (.head _) (hx ro n)
        | t n =>
          refine ⟨rfl, rfl, fun m h => ?_, fun m h => ?_, fun _ h => (by injection h), fun _ _ => rfl, fun _ => upd_same _ _ _, fun r h => upd_ne _ _ (fun z => h rfl z.symm)⟩
          · cases h; exact upd_same _ _ _
          · exact upd_ne _ _ (fun z => h (by rw [z]))
        | a n =>
          refine ⟨rfl, rfl, fun _ h => (by injection h), fun _ _ => rfl, fun m h => ?_, fun m h => ?_, fun _ => upd_same _ _ _, fun r h => upd_ne _ _ (fun z => h rfl z.symm)⟩
          · cases h; exact upd_same _ _ _
          · exact upd_ne _ _ (fun z => h (by rw [z]))
      obtain ⟨d1, d2, d3, d4, d5, d6, d7, d8⟩ := hd
      refine ⟨ih.nv.trans d1, ih.inc.trans d2, fun n r h hr => ?_, fun n h => ?_, fun n r h hr => ?_, fun n h => ?_, fun r o' h hr ht => ?_, fun r h => ?_⟩
      · cases Classical.em (∃ r', (r', Op.t n) ∈ ps ∧ r' ≠ 1) with
        | inl q => obtain ⟨r', q1, q2⟩ := q; exact ih.vo1 n r' q1 q2
        | inr q =>
          rw [ih.vo0 n fun r' hm => Classical.byContradiction fun z => q ⟨r', hm, z⟩]
          rcases List.mem_cons.mp h with e | h
          · cases e; exact d3 n rfl
          · exact absurd ⟨r, h, hr⟩ q
      · rw [ih.vo0 n fun r' hm => h r' (.tail _ hm)]
        exact d4 n fun z => h1 (h ro (by rw [z]; exact .head _))
      · cases Classical.em (∃ r', (r', Op.a n) ∈ ps ∧ r' ≠ 1) with
        | inl q => obtain ⟨r', q1, q2⟩ := q; exact ih.out1 n r' q1 q2
        | inr q =>
          rw [ih.out0 n fun r' hm => Classical.byContradiction fun z => q ⟨r', hm, z⟩]
          rcases List.mem_cons.mp h with e | h
          · cases e; exact d5 n rfl
          · exact absurd ⟨r, h, hr⟩ q
      · rw [ih.out0 n fun r' hm => h r' (.tail _ hm)]
        exact d6 n fun z => h1 (h ro (by rw [z]; exact .head _))
      · cases Classical.em (∃ r' o2, (r', o2) ∈ ps ∧ r' ≠ 1 ∧ isTA o2 = true ∧ reg hm o2 = reg hm o') with
        | inl q => obtain ⟨r', o2, q1, q2, q3, q4⟩ := q; rw [← q4]; exact ih.he1 r' o2 q1 q2 q3
        | inr q =>
          rw [ih.he0 (reg hm o') fun r' o2 hm' hr' ht' z => q ⟨r', o2, hm', hr', ht', z⟩]
          rcases List.mem_cons.mp h with e | h
          · cases e; exact d7 ht
          · exact absurd ⟨r, o', h, hr, ht, rfl⟩ q
      · rw [ih.he0 r fun r' o2 hm' => h r' o2 (.tail _ hm')]
        exact d8 r fun ht => h ro o (.head _) h1 ht
structure SInv (is : List zC7) (hm : IM) (i : Nat) (S : Ck) : Prop where
  nv : 0 ≤ S.nv
  T : ∀ n, LiveT is i n → ∃ v, 0 < v ∧ S.vo n = some v ∧ S.he (home hm n) = some v
  I : ∀ n, LiveI is i n → ∃ v, 0 < v ∧ S.inc n = some v ∧ S.he n = some v
  O : ∀ n, LiveO is i n → ∃ v, 0 < v ∧ S.out n = some v ∧ S.he n = some v
  K : ∀ n v, S.out n = some v → LiveO is i n
theorem initC_facts : ∀ k : Nat, (initC k).nv = k ∧ (∀ n : Int, 1 ≤ n → n ≤ k → (initC k).inc n = some n ∧ (initC k).he n = some n) ∧ (∀ n, (initC k).out n = none) := by
  intro zz
  induction zz with
  | zero =>
    exact ⟨rfl, fun n h1 h2 => by lia, fun _ => rfl⟩
  | succ k ih =>
    obtain ⟨h1, h2, h3⟩ := ih
    refine ⟨by simp [initC, h1], fun n a b => ?_, fun n => h3 n⟩
    simp only [initC, h1]
    by_cases z : n = (k : Int) + 1
    · subst z; exact ⟨upd_same _ _ _, upd_same _ _ _⟩
    · rw [upd_ne _ _ z, upd_ne _ _ z]; exact h2 n a (by lia)
theorem sinv0 {k is hm} (X : Ctx k is hm) : SInv is hm 0 (initC k) := by
  obtain ⟨h1, h2, h3⟩ := initC_facts k
  refine ⟨by rw [h1]; lia, fun n h => ?_, fun n h => ?_, fun n h => ?_, (fun n v h => by rw [h3] at h; injection h)⟩
  · obtain ⟨w, _, _, _, h, _⟩ := h; lia
  · refine zC5 fun _ hk => ?_
    obtain ⟨u, iu, ro, _, a1, a2, a3⟩ := h
    obtain ⟨b1, b2⟩ := (X.sch.ra iu (List.mem_of_getElem? a1) ro n a2).2 a3
    obtain ⟨c1, c2⟩ := h2 n b1 b2
    refine hk ?_
    exact ⟨n, by lia, c1, c2⟩
  · obtain ⟨q, _, h, _⟩ := h; lia
theorem roles_real (hm : IM) (i : zC7) : roles (zE3 hm i.row) = i.rol.map fun p => (p.1, zH5 hm p.2) := by
  simp only [rspec_real hm i.row (zC7.ok i), zC7.roles_eq]
theorem copied_src (S : Ck) (i : zC7) : copied S i.row = 0 ∨ ∃ o, (1, o) ∈ i.rol ∧ copied S i.row = srcVal S o := by
  unfold copied
  by_cases h1 : i.row.nm = "get_variable"
  · rw [if_pos h1]
    refine .inr ⟨opAt i.row.ps 1, ?_, rfl⟩
    rw [← zC7.roles_eq]
    exact roles_at (p := (1, 1)) (by rw [h1, rs_gv]; simp)
  · rw [if_neg h1]
    by_cases h2 : i.row.nm = "put_value"
    · rw [if_pos h2]
      refine .inr ⟨opAt i.row.ps 0, ?_, rfl⟩
      rw [← zC7.roles_eq]
      exact roles_at (p := (1, 0)) (by rw [h2, rs_pv]; simp)
    · rw [if_neg h2]; exact .inl rfl
section
variable {k : Nat} {is : List zC7} {hm : IM} (X : Ctx k is hm)
include X
theorem srcVal_pos {i : Nat} {it : zC7} {S : Ck} (V : SInv is hm i S) (h1 : is[i]? = some it) {ro : Int} {o : Op} (h2 : (ro, o) ∈ it.rol) (h3 : ro ≠ 2) : (isTA o = true → 0 < srcVal S o ∧ S.he (reg hm o) = some (srcVal S o)) ∧ (isTA o = false → srcVal S o = 0) := by
  cases o with
  | t n =>
    refine zC5 fun _ hk => ?_
    obtain ⟨v, a1, a2, a3⟩ := V.T n (readT X h1 h2 h3)
    refine hk ?_
    refine ⟨fun _ => ?_, fun h => by cases h⟩
    simp only [srcVal, a2, Option.getD_some]
    exact ⟨a1, a3⟩
  | a n =>
    refine zC5 fun _ hk => ?_
    obtain ⟨v, a1, a2, a3⟩ := V.I n (readA X h1 h2 h3)
    refine hk ?_
    refine ⟨fun _ => ?_, fun h => by cases h⟩
    simp only [srcVal, a2, Option.getD_some]
    exact ⟨a1, a3⟩
  | y n => exact ⟨fun h => (by injection h), fun _ => rfl⟩
  | x n => exact ⟨fun h => (by injection h), fun _ => rfl⟩
theorem advVal_pos {i : Nat} {it : zC7} {S : Ck} (V : SInv is hm i S) (h1 : is[i]? = some it) : 0 < advVal S it.row ∧ 0 ≤ (advPre S it.row).nv := by
  have nv := V.nv
  dsimp only [advVal, advPre]
  by_cases h : copied S it.row = 0
  · rw [if_pos h, if_pos h]; exact ⟨by lia, by show 0 ≤ S.nv + 1; lia⟩
  · rw [if_neg h, if_neg h]
    refine ⟨?_, nv⟩
    rcases copied_src S it with q | ⟨o, q1, q2⟩
    · exact absurd q h
    · obtain ⟨a1, a2⟩ := srcVal_pos X V h1 q1 (by lia)
      rw [q2] at h ⊢
      cases z : isTA o with
      | true => exact (a1 z).1
      | false => exact absurd (a2 z) h
theorem sstep {i : Nat} {it : zC7} {S : Ck} (V : SInv is hm i S) (h1 : is[i]? = some it) : SInv is hm (i + 1) (adv S it.row (zE3 hm it.row)) := by
  obtain ⟨vpos, nvp⟩ := advVal_pos X V h1
  have hxx : ∀ ro n, (ro, Op.x n) ∉ it.rol := X.sch.x it (List.mem_of_getElem? h1)
  have E := adv_eff (hm := hm) (v := advVal S it.row) it.rol (advPre S it.row) hxx
  have eS : adv S it.row (zE3 hm it.row) = advCall (advOut (advLoop (advVal S it.row) it.rol (it.rol.map fun p => (p.1, zH5 hm p.2)) (advPre S it.row)) it.row) it.row := by
    unfold adv; simp only [roles_real, zC7.roles_eq]
  generalize hS2 : advLoop (advVal S it.row) it.rol (it.rol.map fun p => (p.1, zH5 hm p.2)) (advPre S it.row) = S2 at E eS
  have p1 : (advPre S it.row).vo = S.vo ∧ (advPre S it.row).he = S.he ∧ (advPre S it.row).inc = S.inc ∧ (advPre S it.row).out = S.out := by unfold advPre; split <;> exact ⟨rfl, rfl, rfl, rfl⟩
  obtain ⟨q1, q2, q3, q4⟩ := p1
  simp only [eS]
  have noC : it.calls = false → advCall (advOut S2 it.row) it.row = advOut S2 it.row := fun h => by
    unfold advCall; rw [if_neg]; rw [zC7.calls_eq, h]; simp
  have noE : it.ends = false → advOut S2 it.row = S2 := fun h => by unfold advOut; rw [zC7.ends_eq, h]; rfl
  have yesE : it.ends = true → ∀ n, (advCall (advOut S2 it.row) it.row).out n = none := fun h n => by
    have : (advOut S2 it.row).out n = none := by unfold advOut; rw [zC7.ends_eq, h]; rfl
    unfold advCall; split <;> exact this
  have outE : (advOut S2 it.row).vo = S2.vo ∧ (advOut S2 it.row).he = S2.he ∧ (advOut S2 it.row).inc = S2.inc := by unfold advOut; split <;> exact ⟨rfl, rfl, rfl⟩
  have nv' : (advCall (advOut S2 it.row) it.row).nv = S2.nv := by simp only [advCall, advOut]; split <;> split <;> rfl
  refine ⟨by simp only [nv', E.nv]; exact nvp, fun n h => ?_, fun n h => ?_, fun n h => ?_, fun n v h => ?_⟩
  · obtain ⟨w, iw, w1, w2, w3, w4⟩ := h
    have hcall : it.calls = false := by
      cases z : it.calls with
      | false => rfl
      | true =>
        exfalso
        have he := ends_rol (calls_ends z)
        by_cases wi : w = i
        · subst wi; rw [h1] at w1; obtain rfl := Option.some.inj w1; rw [he] at w2; cases w2
        · rcases w4 with w4 | ⟨u, iu, ro, u1, u2, u3⟩
          · lia
          · have := X.sch.c1 i w u it iw iu ro n h1 z w1 u2 w2 u3 (by lia)
            lia
    simp only [noC hcall, outE.1, outE.2.1]
    by_cases wi : w = i
    · subst wi
      rw [h1] at w1; obtain rfl := Option.some.inj w1
      exact ⟨_, vpos, E.vo1 n 2 w2 (by lia), E.he1 2 (.t n) w2 (by lia) rfl⟩
    · refine zC5 fun _ hk => ?_
      have lt : w < i := by lia
      have use : ∃ (u : Nat) (iu : zC7) (ro : Int), i + 1 ≤ u ∧ is[u]? = some iu ∧ (ro, Op.t n) ∈ iu.rol := by
        rcases w4 with w4 | w4
        · lia
        · exact w4
      obtain ⟨u, iu, ro, u1, u2, u3⟩ := use
      have live : LiveT is i n := ⟨w, iw, w1, w2, lt, .inr ⟨u, iu, ro, by lia, u2, u3⟩⟩
      have live1 : LiveT is (i + 1) n := ⟨w, iw, w1, w2, w3, .inr ⟨u, iu, ro, u1, u2, u3⟩⟩
      refine hk ?_
      cases Classical.em (∃ r', (r', Op.t n) ∈ it.rol ∧ r' ≠ 1) with
      | inl q =>
        refine zC5 fun _ hk => ?_
        obtain ⟨r', a1, a2⟩ := q
        refine hk ?_
        exact ⟨_, vpos, E.vo1 n r' a1 a2, E.he1 r' (.t n) a1 a2 rfl⟩
      | inr q =>
        obtain ⟨v, v1, v2, v3⟩ := V.T n live
        refine ⟨v, v1, ?_, ?_⟩
        · rw [E.vo0 n fun r' hm' => Classical.byContradiction fun z => q ⟨r', hm', z⟩, q1]; exact v2
        · rw [E.he0 (home hm n) fun r' o' hm' hr' ht' z => ?_, q2]
          · exact v3
          · obtain ⟨o, b1, b2, b3, b4, b5⟩ := occT X live1
            obtain ⟨o₀, c1, c2, c3, c4, c5⟩ := X.cov.t w iw n w1 w2
            have c6 := c5.2 u iu ro u2 u3
            cases o' with
            | t m =>
              have nm : m ≠ n := fun zz => q ⟨r', by rw [← zz]; exact hm', hr'⟩
              exact clashT X h1 hm' c1 (by lia) (by lia) ⟨fun _ => ⟨(by rw [c3]; exact fun y => nm y.symm), (by rw [c3]; exact z.symm)⟩, (fun y => by rw [c2] at y; injection y)⟩
            | a m =>
              have r2 : r' = 2 := by
                rcases a_role it r' m hm' with y | y
                · exact absurd y hr'
                · exact y
              subst r2
              exact clashA X h1 hm' c1 (by lia) (by lia) c2 (by rw [c3]; exact z.symm)
            | y m => cases ht'
            | x m => cases ht'
  · refine zC5 fun _ hk => ?_
    obtain ⟨u, iu, ro, u1, u2, u3, u4⟩ := h
    have hend : it.ends = false := by
      cases z : it.ends with
      | false => rfl
      | true => have := X.sch.c2 i u it iu ro n h1 z u2 u3 u4; lia
    have hcall : it.calls = false := by
      cases z : it.calls with
      | false => rfl
      | true => have := calls_ends z; rw [hend] at this; injection this
    refine hk ?_
    simp only [noC hcall, outE.2.2, outE.2.1, E.inc, q3]
    refine zC5 fun _ hk => ?_
    obtain ⟨v, v1, v2, v3⟩ := V.I n ⟨u, iu, ro, by lia, u2, u3, u4⟩
    refine hk ?_
    refine ⟨v, v1, v2, ?_⟩
    rw [E.he0 n fun r' o' hm' hr' ht' z => ?_, q2]
    · exact v3
    · refine zC5 fun _ hk => ?_
      obtain ⟨o, b1, b2, b3, b4, b5⟩ := occI X (i := i + 1) ⟨u, iu, ro, u1, u2, u3, u4⟩
      refine hk ?_
      cases o' with
      | t m => exact clashT X h1 hm' b1 (by lia) (by lia) ⟨(fun y => by rw [b2] at y; injection y), (fun _ => by rw [b3]; exact z.symm)⟩
      | a m =>
        have r2 : r' = 2 := by
          rcases a_role it r' m hm' with y | y
          · exact absurd y hr'
          · exact y
        subst r2
        have := X.sch.n1 i u it iu ro m n h1 hm' u2 u3 u4
        lia
      | y m => injection ht'
      | x m => injection ht'
  · obtain ⟨q, iq, w1, w2, w3, w4⟩ := h
    have hend : it.ends = false := by
      by_cases z : q = i
      · subst z; rw [h1] at w2; obtain rfl := Option.some.inj w2
        cases y : it.ends with
        | false => rfl
        | true => rw [ends_rol y] at w3; exact nomatch w3
      · exact w4 i it (by lia) (by lia) h1
    have hcall : it.calls = false := by
      cases z : it.calls with
      | false => rfl
      | true => have := calls_ends z; rw [hend] at this; injection this
    rw [noC hcall, noE hend]
    by_cases qi : q = i
    · subst qi
      rw [h1] at w2; obtain rfl := Option.some.inj w2
      exact ⟨_, vpos, E.out1 n 2 w3 (by lia), E.he1 2 (.a n) w3 (by lia) rfl⟩
    · have lt : q < i := by lia
      have live : LiveO is i n := ⟨q, iq, lt, w2, w3, fun j ij d1 d2 d3 => w4 j ij d1 (by lia) d3⟩
      obtain ⟨v, v1, v2, v3⟩ := V.O n live
      have now : ∀ r', (r', Op.a n) ∈ it.rol → r' = 1 := fun r' hm' => by
        rcases a_role it r' n hm' with y | y
        · exact y
        · subst y
          obtain ⟨e, ie, e1, e2, e3, e4⟩ := X.sch.n2 q i iq it n w2 h1 w3 hm' lt
          have := w4 e ie e1 (by lia) e3
          rw [e4] at this; injection this
      refine ⟨v, v1, by rw [E.out0 n now, q4]; exact v2, ?_⟩
      rw [E.he0 n fun r' o' hm' hr' ht' z => ?_, q2]
      · exact v3
      · obtain ⟨o, b1, b2, b3, b4, b5⟩ := occO X (i := i + 1) w1 w2 w3 w4
        have b4' : o.start < i := by lia
        cases o' with
        | t m => exact clashT X h1 hm' b1 b4' (by lia) ⟨(fun y => by rw [b2] at y; injection y), (fun _ => by rw [b3]; exact z.symm)⟩
        | a m =>
          have z' : m = n := z
          subst z'
          exact hr' (now r' hm')
        | y m => cases ht'
        | x m => cases ht'
  · cases he : it.ends with
    | true => rw [yesE he n] at h; injection h
    | false =>
      have hcall : it.calls = false := by
        cases z : it.calls with
        | false => rfl
        | true => have := calls_ends z; rw [he] at this; injection this
      rw [noC hcall, noE he] at h
      cases Classical.em (∃ r', (r', Op.a n) ∈ it.rol ∧ r' ≠ 1) with
      | inl q =>
        obtain ⟨r', a1, a2⟩ := q
        have r2 : r' = 2 := by
          rcases a_role it r' n a1 with y | y
          · exact absurd y a2
          · exact y
        subst r2
        exact ⟨i, it, by lia, h1, a1, fun j ij d1 d2 _ => by lia⟩
      | inr q =>
        rw [E.out0 n fun r' hm' => Classical.byContradiction fun z => q ⟨r', hm', z⟩, q4] at h
        obtain ⟨q', iq, w1, w2, w3, w4⟩ := V.K n v h
        refine ⟨q', iq, by lia, w2, w3, fun j ij d1 d2 d3 => ?_⟩
        by_cases z : j = i
        · subst z; rw [h1] at d3; obtain rfl := Option.some.inj d3; exact he
        · exact w4 j ij d1 (by lia) d3
end
end
section
theorem samePart_real (hm : IM) (a : Pt) : samePart a (realPt hm a) = true := by
  cases a with
  | num i => exact decide_eq_true rfl
  | op o => cases o <;> first | rfl | exact decide_eq_true rfl
theorem parts_real (hm : IM) : ∀ ps : List Pt, ((ps.zip (ps.map (realPt hm))).all fun x => samePart x.1 x.2) = true := by
  intro zz
  induction zz with
  | nil =>
    exact rfl
  | cons a ps ih =>
    simp only [List.map_cons, List.zip_cons_cons, List.all_cons, samePart_real, ih, Bool.and_self]
theorem shape_real (hm : IM) (r : Row) : zJ4 r (zE3 hm r) = true := by
  simp [zJ4, zE3, parts_real]
theorem mloop_none {S : Ck} {r : Row} {hm : IM} : ∀ (ps : List (Int × Op)) (w : List Op), (∀ p ∈ ps, p.1 ≠ 2 → sameRead S p.2 (zH5 hm p.2) = true) → (∀ p ∈ ps, ∀ n, p.2 ≠ .x n) → (∀ p ∈ ps, p.1 = 2 → zH5 hm p.2 ∉ w) →
    ps.Pairwise (fun p q => p.1 = 2 → q.1 = 2 → isTA p.2 = true → zH5 hm p.2 ≠ zH5 hm q.2) → mloop S r ps (ps.map fun p => (p.1, zH5 hm p.2)) w = none
  | [], w, _, _, _, _ => rfl
  | (ro, o) :: ps, w, h1, h2, h3, h4 => by
    simp only [List.pairwise_cons] at h4
    have ih := fun w h => mloop_none (S := S) (r := r) (hm := hm) ps w (fun p hp => h1 p (.tail _ hp)) (fun p hp => h2 p (.tail _ hp)) h h4.2
    simp only [List.map_cons, mloop]
    by_cases z : ro = 2
    · simp only [z, if_true]
      have sw : sameWrite o (zH5 hm o) = true := by
        cases o with
        | x n => exact absurd rfl (h2 _ (.head _) n)
        | _ => simp [sameWrite, zH5]
      rw [if_neg (by rw [sw]; simp)]
      have hw := h3 (ro, o) (.head _) z
      cases o with
      | x n => exact absurd rfl (h2 _ (.head _) n)
      | y n => exact ih w fun p hp hr => h3 p (.tail _ hp) hr
      | t n =>
        simp only [zH5] at hw ⊢
        rw [if_neg hw]
        refine ih _ fun p hp hr hm' => ?_
        rcases List.mem_append.mp hm' with q | q
        · exact h3 p (.tail _ hp) hr q
        · rw [List.mem_singleton] at q
          exact h4.1 p hp z hr rfl q.symm
      | a n =>
        simp only [zH5] at hw ⊢
        rw [if_neg hw]
        refine ih _ fun p hp hr hm' => ?_
        rcases List.mem_append.mp hm' with q | q
        · exact h3 p (.tail _ hp) hr q
        · rw [List.mem_singleton] at q
          exact h4.1 p hp z hr rfl q.symm
    · simp only [z, if_false]
      have := h1 (ro, o) (.head _) z
      simp only at this
      rw [if_neg (by rw [this]; simp)]
      exact ih w fun p hp hr => h3 p (.tail _ hp) hr
section
variable {k : Nat} {is : List zC7} {hm : IM} (X : Ctx k is hm)
include X
theorem read_ok {i : Nat} {it : zC7} {S : Ck} (V : SInv is hm i S) (h1 : is[i]? = some it) {ro : Int} {o : Op} (h2 : (ro, o) ∈ it.rol) (h3 : ro ≠ 2) : sameRead S o (zH5 hm o) = true := by
  cases o with
  | t n =>
    obtain ⟨v, a1, a2, a3⟩ := V.T n (readT X h1 h2 h3)
    have a3' : S.he ((hm n).getD 0) = some v := a3
    simp [sameRead, zH5, a2, a3']
  | a n =>
    obtain ⟨v, a1, a2, a3⟩ := V.I n (readA X h1 h2 h3)
    simp [sameRead, zH5, a2, a3, Op.num]
  | y n => simp [sameRead, zH5]
  | x n => exact absurd h2 (X.sch.x it (List.mem_of_getElem? h1) ro n)
theorem own_match {i : Nat} {it : zC7} {S : Ck} (V : SInv is hm i S) (h1 : is[i]? = some it) : matchesC S it.row (zE3 hm it.row) = true := by
  have hx := X.sch.x it (List.mem_of_getElem? h1)
  have hm0 : mloop S it.row (roles it.row) (roles (zE3 hm it.row)) [] = none := by
    simp only [roles_real, zC7.roles_eq]
    refine mloop_none it.rol [] (fun p hp hr => read_ok X V h1 (ro := p.1) (o := p.2) hp hr) (fun p hp n e => hx p.1 n (by rw [← e]; exact hp)) (fun p hp hr hh => by cases hh) ?_
    have key : ∀ o s, it = .pvar o s → home hm o ≠ s := fun o s e z => by
      refine zC5 fun _ hk => ?_
      have m1 : (2, Op.t o) ∈ it.rol := by rw [e]; exact .head _
      have m2 : (2, Op.a s) ∈ it.rol := by rw [e]; exact .tail _ (.head _)
      obtain ⟨x, a1, a2, a3, a4, a5⟩ := occW X h1 m1
      refine hk ?_
      exact clashA X h1 m2 a1 (by lia) a5 a2 (by rw [a3]; exact z)
    cases it with
    | pvar o s =>
      exact .cons (fun q hq _ _ _ z => key o s rfl (by obtain rfl := List.mem_singleton.mp hq; exact Op.x.inj z)) (List.pairwise_singleton _ _)
    | _ => first | exact .nil | exact List.pairwise_singleton _ _ | exact .cons (fun q _ h2 => absurd h2 (show ¬ (1 : Int) = 2 by decide)) (List.pairwise_singleton _ _)
  unfold matchesC
  rw [shape_real, if_pos rfl, hm0]
  simp only [Option.getD_none]
  rw [stand_iff]
  intro he n v hv
  obtain ⟨v0, a1, a2, a3⟩ := V.O n (V.K n v hv)
  rw [a2] at hv; obtain rfl := Option.some.inj hv
  rw [a3]; rfl
end
noncomputable def copyOf : zC7 → Option (Op × Op)
  | .pv u o => some (.t u, .t o)
  | .gv o u => some (.t u, .t o)
  | .pva u s => some (.t u, .a s)
  | .gvt o n => some (.a n, .t o)
  | _ => none
noncomputable def cpN (s : Str) : Bool := decide (s = "get_variable" ∨ s = "put_value")
theorem copy_iff (hm : IM) (it : zC7) : isCopyR (zE3 hm it.row) = (copyOf it).isSome := by cases it <;> kernel_rfl
theorem mem2 {α : Type} {q a b : α} (h : q ∈ [a, b]) : q = a ∨ q = b := by simpa using h
structure CopyF (hm : IM) (it : zC7) (s t : Op) : Prop where
  rol : it.rol = [(1, s), (2, t)]
  ts : isTA s = true
  tt : isTA t = true
  src : ∀ S, copied S it.row = srcVal S s
  ends : it.ends = false
  tgt : copyTgt it.row = t
  self : selfR (zE3 hm it.row) ↔ reg hm s = reg hm t
  two : it.row.ps.length = 2
  ta : ∀ q ∈ it.row.ps, ∃ o, q = .op o ∧ isTA o = true
  nm : it.row.nm = "get_variable" ∨ it.row.nm = "put_value"
theorem copy_facts (hm : IM) {it : zC7} {s t : Op} (h : copyOf it = some (s, t)) : CopyF hm it s t := by
  have hc : isCopyR (zE3 hm it.row) = true := by simp only [copy_iff, h]; rfl
  have self : (opAt (zE3 hm it.row).ps 0 = opAt (zE3 hm it.row).ps 1 ↔ reg hm s = reg hm t) → (selfR (zE3 hm it.row) ↔ reg hm s = reg hm t) := fun q => ⟨fun z => q.mp z.2, fun z => ⟨hc, q.mpr z⟩⟩
  cases it with
  | pv u o =>
    obtain ⟨rfl, rfl⟩ := Prod.mk.inj (Option.some.inj h)
    refine ⟨rfl, rfl, rfl, fun S => by kernel_rfl, rfl, by kernel_rfl, self ⟨fun z => Op.x.inj z, fun z => congrArg Op.x z⟩, rfl, ?_, .inr rfl⟩
    intro q hq
    rcases mem2 hq with rfl | rfl <;> exact ⟨_, rfl, rfl⟩
  | gv o u =>
    obtain ⟨rfl, rfl⟩ := Prod.mk.inj (Option.some.inj h)
    refine ⟨rfl, rfl, rfl, fun S => by kernel_rfl, rfl, by kernel_rfl, self ⟨fun z => (Op.x.inj z).symm, fun z => congrArg Op.x z.symm⟩, rfl, ?_, .inl rfl⟩
    intro q hq
    rcases mem2 hq with rfl | rfl <;> exact ⟨_, rfl, rfl⟩
  | pva u o =>
    obtain ⟨rfl, rfl⟩ := Prod.mk.inj (Option.some.inj h)
    refine ⟨rfl, rfl, rfl, fun S => by kernel_rfl, rfl, by kernel_rfl, self ⟨fun z => Op.x.inj z, fun z => congrArg Op.x z⟩, rfl, ?_, .inr rfl⟩
    intro q hq
    rcases mem2 hq with rfl | rfl <;> exact ⟨_, rfl, rfl⟩
  | gvt o n =>
    obtain ⟨rfl, rfl⟩ := Prod.mk.inj (Option.some.inj h)
    refine ⟨rfl, rfl, rfl, fun S => by kernel_rfl, rfl, by kernel_rfl, self ⟨fun z => (Op.x.inj z).symm, fun z => congrArg Op.x z.symm⟩, rfl, ?_, .inl rfl⟩
    intro q hq
    rcases mem2 hq with rfl | rfl <;> exact ⟨_, rfl, rfl⟩
  | _ => exact noS h
theorem ahead_shape {hm : IM} {it it' : zC7} {s t : Op} (F : CopyF hm it s t) (h : zJ4 it.row (zE3 hm it'.row) = true) : ∃ s' t', copyOf it' = some (s', t') := by
  have : isCopyR (zE3 hm it'.row) = true := by
    simp only [zJ4, Bool.and_eq_true, decide_eq_true_eq] at h
    obtain ⟨⟨h1, h2⟩, h3⟩ := h
    have l2 : (zE3 hm it'.row).ps.length = 2 := by rw [← h1]; exact F.two
    match ha : it.row.ps, F.two, hb : (zE3 hm it'.row).ps, l2 with
    | [a1, a2], _, [b1, b2], _ =>
      rw [ha, hb] at h3
      simp only [List.zip_cons_cons, List.all_cons, Bool.and_eq_true] at h3
      have x1 : ∀ {a b : Pt}, (∃ o, a = .op o ∧ isTA o = true) → samePart a b = true → ∃ n, b = .op (.x n) := fun {a b} q z => by
        obtain ⟨o, rfl, q2⟩ := q
        cases o with
        | t n => cases b with
          | num i => injection z
          | op o' => cases o' with
            | x n => exact ⟨n, rfl⟩
            | _ => injection z
        | a n => cases b with
          | num i => injection z
          | op o' => cases o' with
            | x n => exact ⟨n, rfl⟩
            | _ => injection z
        | _ => injection q2
      obtain ⟨n1, e1⟩ := x1 (F.ta a1 (by rw [ha]; simp)) h3.1
      obtain ⟨n2, e2⟩ := x1 (F.ta a2 (by rw [ha]; simp)) h3.2.1
      have nm : (zE3 hm it'.row).nm = "get_variable" ∨ (zE3 hm it'.row).nm = "put_value" := by rw [← h2]; exact F.nm
      simp only [isCopyR, nm, hb, e1, e2, opAt, List.getElem?_cons_zero, List.getElem?_cons_succ, Op.tag, decide_true, Bool.and_self]
  rw [copy_iff] at this
  cases q : copyOf it' with
  | none => rw [q] at this; injection this
  | some p => exact ⟨p.1, p.2, rfl⟩
theorem realOp_ta {hm : IM} {o : Op} (h : isTA o = true) : zH5 hm o = .x (reg hm o) := by
  cases o with
  | t n => rfl
  | a n => rfl
  | _ => injection h
theorem ahead_match {hm : IM} {it it' : zC7} {s t s' t' : Op} (F : CopyF hm it s t) (F' : CopyF hm it' s' t') {C : Ck} (h : matchesC C it.row (zE3 hm it'.row) = true) :
    sameRead C s (.x (reg hm s')) = true ∧ sameWrite t (.x (reg hm t')) = true := by
  unfold matchesC at h
  split at h
  · simp only [roles_real, zC7.roles_eq, F.rol, F'.rol] at h
    simp only [List.map_cons, List.map_nil, realOp_ta F'.ts, realOp_ta F'.tt, mloop] at h
    simp only [show ((1 : Int) = 2) = False from by simp, if_false, if_true] at h
    by_cases h1 : sameRead C s (.x (reg hm s')) = false
    · rw [if_pos h1] at h; injection h
    · rw [if_neg h1] at h
      by_cases h2 : sameWrite t (.x (reg hm t')) = false
      · rw [if_pos h2] at h; injection h
      · exact ⟨by simpa using h1, by simpa using h2⟩
  · injection h
theorem sameRead_val {hm : IM} {C : Ck} {s : Op} {r : Int} (hs : isTA s = true) (h : sameRead C s (.x r) = true) : C.he r = some (srcVal C s) := by
  dsimp only [sameRead] at h
  cases s with
  | t n =>
    simp only at h
    cases q : C.he r with
    | none => rw [q] at h; injection h
    | some v => rw [q] at h; simp at h; rw [h]; rfl
  | a n =>
    simp only at h
    cases q : C.he r with
    | none => rw [q] at h; injection h
    | some v => rw [q] at h; simp at h; rw [h.2]; rfl
  | _ => injection hs
theorem adv_copy {hm : IM} {it it' : zC7} {s t s' t' : Op} (F : CopyF hm it s t) (F' : CopyF hm it' s' t') {C : Ck} (h : srcVal C s ≠ 0) : adv C it.row (zE3 hm it'.row) = writeC C t (.x (reg hm t')) (srcVal C s) := by
  have e1 : copied C it.row ≠ 0 := by rw [F.src]; exact h
  have he : ends it.row = false := by rw [zC7.ends_eq]; exact F.ends
  have hc : ¬ isCall it.row := fun z => by
    have := calls_ends ((zC7.calls_eq it).mp z)
    rw [F.ends] at this; injection this
  simp only [adv, advCall, advOut, advVal, advPre]
  rw [if_neg hc, he, if_neg e1, if_neg e1, roles_real, zC7.roles_eq, F.rol, F'.rol, F.src]
  simp only [List.map_cons, List.map_nil, realOp_ta F'.ts, realOp_ta F'.tt, advLoop, if_true, Bool.false_eq_true, if_false]
  rw [if_neg (by lia)]
end
section
theorem kept_inv {p q : Row} {L ks : List Row} (h : Kept (p :: L) (q :: ks)) : (p = q ∧ Kept L ks) ∨ (selfR p ∧ Kept L (q :: ks)) := by
  generalize hA : p :: L = A at h
  generalize hB : q :: ks = B at h
  cases h with
  | nil => injection hA
  | keep h => cases hA; cases hB; exact .inl ⟨rfl, h⟩
  | drop s h => cases hA; subst hB; exact .inr ⟨s, h⟩
noncomputable def SS (k : Nat) (is : List zC7) (hm : IM) : Nat → Ck
  | 0 => initC k
  | i + 1 => match is[i]? with
    | some it => adv (SS k is hm i) it.row (zE3 hm it.row)
    | none => SS k is hm i
noncomputable def realI (hm : IM) (it : zC7) : Row := zE3 hm it.row
section
variable {k : Nat} {is : List zC7} {hm : IM} (X : Ctx k is hm)
include X
theorem SS_inv : ∀ i : Nat, i ≤ is.length → SInv is hm i (SS k is hm i)
  | 0, _ => sinv0 X
  | i + 1, h => by
    have hi : is[i]? = some is[i] := by simp
    have := sstep X (SS_inv i (by lia)) hi
    dsimp only [SS]
    rw [hi]; exact this
theorem SS_succ {i : Nat} {it : zC7} (h : is[i]? = some it) : SS k is hm (i + 1) = adv (SS k is hm i) it.row (zE3 hm it.row) := by
  conv => lhs; dsimp only [SS]
  rw [h]
theorem SS_copy {i : Nat} {it : zC7} {s t : Op} (h : is[i]? = some it) (hc : copyOf it = some (s, t)) : 0 < srcVal (SS k is hm i) s ∧ (SS k is hm i).he (reg hm s) = some (srcVal (SS k is hm i) s) ∧ SS k is hm (i + 1) = writeC (SS k is hm i) t (.x (reg hm t)) (srcVal (SS k is hm i) s) := by
  have F := copy_facts hm hc
  have hi : i ≤ is.length := Nat.le_of_lt (List.getElem?_eq_some_iff.mp h).1
  have V := SS_inv X i hi
  obtain ⟨a1, a2⟩ := (srcVal_pos X V h (ro := 1) (o := s) (by rw [F.rol]; simp) (by lia)).1 F.ts
  exact ⟨a1, a2, by rw [SS_succ X h, adv_copy F F (by lia)]⟩
theorem writeC_parts {S : Ck} {t : Op} {r v : Int} (h : isTA t = true) : (writeC S t (.x r) v).he = upd S.he r v ∧ (writeC S t (.x r) v).nv = S.nv ∧ (writeC S t (.x r) v).inc = S.inc := by
  cases t with
  | t n => exact ⟨rfl, rfl, rfl⟩
  | a n => exact ⟨rfl, rfl, rfl⟩
  | _ => injection h
theorem writeC_vo {S C : Ck} {t : Op} {r r' v : Int} (h : isTA t = true) (h1 : C.vo = S.vo) (h2 : C.out = S.out) : (writeC C t (.x r') v).vo = (writeC S t (.x r) v).vo ∧ (writeC C t (.x r') v).out = (writeC S t (.x r) v).out := by
  cases t with
  | t n => exact ⟨by simp only [writeC, h1], h2⟩
  | a n => exact ⟨h1, by simp only [writeC, h2]⟩
  | _ => injection h
set_option tactic.hygienic true in
theorem self_he {i : Nat} {it : zC7} (h : is[i]? = some it) (hs : selfR (realI hm it)) : (SS k is hm (i + 1)).he = (SS k is hm i).he := by
  refine zC5 fun _ hk => ?_
  have hc : (copyOf it).isSome = true := by rw [← copy_iff hm]; exact hs.1
  obtain ⟨⟨s, t⟩, hc'⟩ := Option.isSome_iff_exists.mp hc
  have F := copy_facts hm hc'
  obtain ⟨a1, a2, a3⟩ := SS_copy X h hc'
  have e := F.self.mp hs
  refine hk ?_
  rw [a3, (writeC_parts X F.tt).1, ← e]
  funext x
  unfold upd
  split
  · rename_i z; simp only [z, a2]
  · rfl
theorem he_const {i : Nat} : ∀ m : Nat, (∀ (j : Nat) (it : zC7), i ≤ j → j < i + m → is[j]? = some it → selfR (realI hm it)) → i + m ≤ is.length → (SS k is hm (i + m)).he = (SS k is hm i).he
  | 0, _, _ => rfl
  | m + 1, h, hl => by
    have hi : is[i + m]? = some (is[i + m]'(by lia)) := by simp
    have := self_he X hi (h (i + m) _ (by lia) (by lia) hi)
    simp only [show i + (m + 1) = i + m + 1 by lia, this]
    exact he_const m (fun j it h1 h2 h3 => h j it h1 (by lia) h3) (by lia)
omit X in
theorem kept_next : ∀ (m i : Nat) (kept : List Row), is.length - i = m → i ≤ is.length → Kept ((is.drop i).map (realI hm)) kept →
    (kept = [] ∧ ∀ (j : Nat) (it : zC7), i ≤ j → is[j]? = some it → selfR (realI hm it)) ∨ (∃ (n : Nat) (itn : zC7) (kept' : List Row), i ≤ n ∧ is[n]? = some itn ∧ kept = realI hm itn :: kept' ∧ (∀ (j : Nat) (it : zC7), i ≤ j → j < n → is[j]? = some it → selfR (realI hm it)) ∧ Kept ((is.drop (n + 1)).map (realI hm)) kept') := by
  intro zz
  induction zz with
  | zero =>
    intro i kept e hi h
    have : is.drop i = [] := List.drop_eq_nil_of_le (by lia)
    rw [this] at h
    cases h
    exact .inl ⟨rfl, fun j it h1 h2 => by have := (List.getElem?_eq_some_iff.mp h2).1; lia⟩
  | succ m ih =>
    intro i kept e hi h
    have lt : i < is.length := by lia
    have hd : is.drop i = is[i] :: is.drop (i + 1) := List.drop_eq_getElem_cons lt
    have hg : is[i]? = some is[i] := by simp
    simp only [hd, List.map_cons] at h
    cases h with
    | keep h => exact .inr ⟨i, is[i], _, Nat.le_refl _, hg, rfl, fun j it h1 h2 => by lia, h⟩
    | drop hs h =>
      rcases ih (i + 1) kept (by lia) (by lia) h with ⟨a1, a2⟩ | ⟨n, itn, kept', b1, b2, b3, b4, b5⟩
      · refine .inl ⟨a1, fun j it h1 h2 => ?_⟩
        by_cases z : j = i
        · cases z; rw [hg] at h2; obtain rfl := Option.some.inj h2; exact hs
        · exact a2 j it (by lia) h2
      · refine .inr ⟨n, itn, kept', by lia, b2, b3, fun j it h1 h2 h3 => ?_, b5⟩
        by_cases z : j = i
        · cases z; rw [hg] at h3; obtain rfl := Option.some.inj h3; exact hs
        · exact b4 j it (by lia) h2 h3
theorem out_stays {i : Nat} {it : zC7} {s : Op} {n : Int} (h : is[i]? = some it) (hc : copyOf it = some (s, .a n)) : ∀ m : Nat, (∀ (j : Nat) (ij : zC7), i < j → j < i + 1 + m → is[j]? = some ij → (copyOf ij).isSome = true) → i + 1 + m ≤ is.length →
    (SS k is hm (i + 1 + m)).out n = some (srcVal (SS k is hm i) s)
  | 0, _, _ => by
    obtain ⟨a1, a2, a3⟩ := SS_copy X h hc
    show (SS k is hm (i + 1)).out n = _
    rw [a3]; exact upd_same _ _ _
  | m + 1, hcs, hl => by
    have ih := out_stays h hc m (fun j ij h1 h2 h3 => hcs j ij h1 (by lia) h3) (by lia)
    have hj : is[i + 1 + m]? = some (is[i + 1 + m]'(by lia)) := by simp
    obtain ⟨⟨s', t'⟩, hc'⟩ := Option.isSome_iff_exists.mp (hcs (i + 1 + m) _ (by lia) (by lia) hj)
    have F := copy_facts hm hc
    have F' := copy_facts hm hc'
    obtain ⟨b1, b2, b3⟩ := SS_copy X hj hc'
    rw [show i + 1 + (m + 1) = i + 1 + m + 1 by lia, b3]
    cases t' with
    | t x => exact ih
    | a x =>
      have ne : n ≠ x := fun z => by
        subst z
        obtain ⟨e, ie, e1, e2, e3, e4⟩ := X.sch.n2 i (i + 1 + m) it _ n h hj (by rw [F.rol]; simp) (by rw [F'.rol]; simp) (by lia)
        obtain ⟨⟨s2, t2⟩, hc2⟩ := Option.isSome_iff_exists.mp (hcs e ie e1 (by lia) e3)
        have := (copy_facts hm hc2).ends
        rw [e4] at this; cases this
      show upd _ x _ n = _
      rw [upd_ne _ _ ne]; exact ih
    | _ => have := F'.tt; cases this
theorem srcVal_congr {S C : Ck} {o : Op} (h1 : C.vo = S.vo) (h2 : C.inc = S.inc) : srcVal C o = srcVal S o := by
  cases o <;> simp only [srcVal, h1, h2]
theorem sim : ∀ (m i i' : Nat) (C : Ck) (kept : List Row), is.length - i = m → i ≤ is.length → i ≤ i' → i' ≤ is.length → Kept ((is.drop i').map (realI hm)) kept →
    C.nv = (SS k is hm i).nv → C.vo = (SS k is hm i).vo → C.inc = (SS k is hm i).inc → C.out = (SS k is hm i).out → C.he = (SS k is hm i').he → (∀ (j : Nat) (ij : zC7), i ≤ j → j < i' → is[j]? = some ij → (copyOf ij).isSome = true) →
    chk ((is.drop i).map zC7.row) kept C = true
  | 0, i, i', C, kept, e, hi, hii, hi', K, c1, c2, c3, c4, c5, cc => by
    have h1 : is.drop i = [] := List.drop_eq_nil_of_le (by lia)
    have h2 : is.drop i' = [] := List.drop_eq_nil_of_le (by lia)
    rw [h2] at K
    cases K
    rw [h1]; rfl
  | m + 1, i, i', C, kept, e, hi, hii, hi', K, c1, c2, c3, c4, c5, cc => by
    have lt : i < is.length := by lia
    have hd : is.drop i = is[i] :: is.drop (i + 1) := List.drop_eq_getElem_cons lt
    have hg : is[i]? = some is[i] := by simp
    generalize hit : is[i] = it at hd hg
    rw [hd, List.map_cons]
    have V := SS_inv X i hi
    have nxt := kept_next (hm := hm) (is.length - i') i' kept rfl hi' K
    cases hco : copyOf it with
    | none =>
      have ei : i' = i := by
        by_cases z : i' = i
        · exact z
        · have := cc i it (Nat.le_refl _) (by lia) hg
          rw [hco] at this; cases this
      subst ei
      have eC : C = SS k is hm i' := by
        cases C; cases hS : SS k is hm i'
        rw [hS] at c1 c2 c3 c4 c5
        simp only at c1 c2 c3 c4 c5
        subst c1 c2 c3 c4 c5
        rfl
      have notself : ¬ selfR (realI hm it) := fun z => by
        have := z.1
        rw [show isCopyR (realI hm it) = (copyOf it).isSome from copy_iff hm it, hco] at this; cases this
      rcases nxt with ⟨a1, a2⟩ | ⟨n, itn, kept', b1, b2, b3, b4, b5⟩
      · exact absurd (a2 i' it (Nat.le_refl _) hg) notself
      · have en : n = i' := by
          by_cases z : n = i'
          · exact z
          · exact absurd (b4 i' it (Nat.le_refl _) (by lia) hg) notself
        subst en
        rw [hg] at b2; cases b2
        subst b3
        have hmm : matchesC (SS k is hm n) it.row (realI hm it) = true := own_match X V hg
        rw [eC]
        have : chk (it.row :: (is.drop (n + 1)).map zC7.row) (realI hm it :: kept') (SS k is hm n) = chk ((is.drop (n + 1)).map zC7.row) kept' (adv (SS k is hm n) it.row (realI hm it)) := by
          simp only [chk]; rw [if_pos hmm]
        rw [this]
        have es : adv (SS k is hm n) it.row (realI hm it) = SS k is hm (n + 1) := (SS_succ X hg).symm
        rw [es]
        exact sim m (n + 1) (n + 1) _ kept' (by lia) (by lia) (Nat.le_refl _) (by lia) b5 rfl rfl rfl rfl rfl fun j ij h1 h2 => by lia
    | some st =>
      obtain ⟨s, t⟩ := st
      have F := copy_facts hm hco
      obtain ⟨v0, v1, v2⟩ := SS_copy X hg hco
      have ev : srcVal C s = srcVal (SS k is hm i) s := srcVal_congr X c2 c3
      have ahead : ∀ (n : Nat) (itn : zC7) (kept' : List Row), i' ≤ n → is[n]? = some itn → kept = realI hm itn :: kept' → (∀ (j : Nat) (ij : zC7), i' ≤ j → j < n → is[j]? = some ij → selfR (realI hm ij)) → Kept ((is.drop (n + 1)).map (realI hm)) kept' → matchesC C it.row (realI hm itn) = true →
          chk (it.row :: (is.drop (i + 1)).map zC7.row) kept C = true := fun n itn kept' b1 b2 b3 b4 b5 hmm => by
        subst b3
        have : chk (it.row :: (is.drop (i + 1)).map zC7.row) (realI hm itn :: kept') C = chk ((is.drop (i + 1)).map zC7.row) kept' (adv C it.row (realI hm itn)) := by
          simp only [chk]; rw [if_pos hmm]
        rw [this]
        have hsh : zJ4 it.row (zE3 hm itn.row) = true := by
          have := hmm
          unfold matchesC at this
          split at this
          · assumption
          · cases this
        obtain ⟨s', t', hc'⟩ := ahead_shape F hsh
        have F' := copy_facts hm hc'
        obtain ⟨r1, r2⟩ := ahead_match F F' hmm
        have rv := sameRead_val (hm := hm) F.ts r1
        have ln : n < is.length := (List.getElem?_eq_some_iff.mp b2).1
        have hen : (SS k is hm n).he = (SS k is hm i').he := by
          have := he_const X (i := i') (n - i') (fun j ij h1 h2 h3 => b4 j ij h1 (by lia) h3) (by lia)
          rw [show i' + (n - i') = n by lia] at this
          exact this
        obtain ⟨w0, w1, w2⟩ := SS_copy X b2 hc'
        have eq : srcVal (SS k is hm n) s' = srcVal C s := by
          rw [hen, ← c5, rv] at w1
          exact (Option.some.inj w1).symm
        have ea : adv C it.row (realI hm itn) = writeC C t (.x (reg hm t')) (srcVal C s) := adv_copy F F' (by rw [ev]; lia)
        rw [ea]
        obtain ⟨p1, p2, p3⟩ := writeC_parts X (S := C) (r := reg hm t') (v := srcVal C s) F.tt
        obtain ⟨q1, q2, q3⟩ := writeC_parts X (S := SS k is hm i) (r := reg hm t) (v := srcVal (SS k is hm i) s) F.tt
        obtain ⟨u1, u2⟩ := writeC_vo X (S := SS k is hm i) (C := C) (r := reg hm t) (r' := reg hm t') (v := srcVal C s) F.tt c2 c4
        refine sim m (i + 1) (n + 1) _ kept' (by lia) (by lia) (by lia) (by lia) b5 ?_ ?_ ?_ ?_ ?_ fun j ij h1 h2 h3 => ?_
        · rw [p2, v2, q2]; exact c1
        · rw [u1, v2, ev]
        · rw [p3, v2, q3]; exact c3
        · rw [u2, v2, ev]
        · rw [p1, w2, (writeC_parts X F'.tt).1, hen, c5, eq]
        · by_cases z : j < i'
          · exact cc j ij (by lia) z h3
          · by_cases z' : j < n
            · have := (b4 j ij (by lia) z' h3).1
              rw [show isCopyR (realI hm ij) = (copyOf ij).isSome from copy_iff hm ij] at this; exact this
            · have : j = n := by lia
              subst this
              rw [b2] at h3; cases h3; rw [hc']; rfl
      have out : (i' = i → selfR (realI hm it) ∧ Kept ((is.drop (i + 1)).map (realI hm)) kept) → (leftOut C it.row).1 = true ∧ chk ((is.drop (i + 1)).map zC7.row) kept (leftOut C it.row).2 = true := fun hself => by
        have e1 : copied C it.row = srcVal C s := F.src C
        have e2 : copied C it.row ≠ 0 := by rw [e1, ev]; lia
        have go : ∀ C' : Ck, C'.nv = C.nv → C'.vo = (SS k is hm (i + 1)).vo → C'.inc = C.inc → C'.out = (SS k is hm (i + 1)).out → C'.he = C.he → chk ((is.drop (i + 1)).map zC7.row) kept C' = true := fun C' d1 d2 d3 d4 d5 => by
          obtain ⟨q1, q2, q3⟩ := writeC_parts X (S := SS k is hm i) (r := reg hm t) (v := srcVal (SS k is hm i) s) F.tt
          by_cases z : i' = i
          · subst z
            obtain ⟨hs, K'⟩ := hself rfl
            refine sim m (i' + 1) (i' + 1) C' kept (by lia) (by lia) (Nat.le_refl _) (by lia) K' ?_ d2 ?_ d4 ?_ fun j ij h1 h2 => by lia
            · rw [d1, c1, v2, q2]
            · rw [d3, c3, v2, q3]
            · rw [d5, c5, self_he X hg hs]
          · refine sim m (i + 1) i' C' kept (by lia) (by lia) (by lia) hi' K ?_ d2 ?_ d4 ?_ fun j ij h1 h2 h3 => cc j ij (by lia) h2 h3
            · rw [d1, c1, v2, q2]
            · rw [d3, c3, v2, q3]
            · rw [d5, c5]
        unfold leftOut
        rw [if_neg e2, F.tgt]
        cases t with
        | t n =>
          refine ⟨rfl, go _ rfl ?_ rfl ?_ rfl⟩
          · rw [v2, e1, ev, c2]; rfl
          · rw [v2, c4]; rfl
        | a n =>
          have hen : (C.he n).getD 0 = copied C it.row := by
            rw [e1, ev, c5]
            by_cases z : i' = i
            · subst z
              obtain ⟨hs, _⟩ := hself rfl
              have := F.self.mp hs
              have r : reg hm (.a n) = n := rfl
              rw [r] at this
              rw [← this, v1]; rfl
            · have o1 := out_stays X hg hco (i' - i - 1) (fun j ij h1 h2 h3 => cc j ij (by lia) (by lia) h3) (by lia)
              rw [show i + 1 + (i' - i - 1) = i' by lia] at o1
              have V' := SS_inv X i' hi'
              obtain ⟨w, w1, w2, w3⟩ := V'.O n (V'.K n _ o1)
              rw [o1] at w2; cases w2
              rw [w3]; rfl
          simp only
          rw [if_pos hen]
          refine ⟨rfl, go _ rfl ?_ rfl ?_ rfl⟩
          · rw [v2, c2]; rfl
          · rw [v2, e1, ev, c4]; rfl
        | _ => have := F.tt; cases this
      rcases nxt with ⟨a1, a2⟩ | ⟨n, itn, kept', b1, b2, b3, b4, b5⟩
      · subst a1
        obtain ⟨o1, o2⟩ := out fun z => by
          subst z
          refine ⟨a2 i' it (Nat.le_refl _) hg, ?_⟩
          rw [hd, List.map_cons] at K
          cases K; assumption
        simp only [chk, o1, if_true]; exact o2
      · cases hmm : matchesC C it.row (realI hm itn) with
        | true => exact ahead n itn kept' b1 b2 b3 b4 b5 hmm
        | false =>
          obtain ⟨o1, o2⟩ := out fun z => by
            subst z
            have ne : n ≠ i' := fun y => by
              subst y
              rw [hg] at b2; cases b2
              have eC : C = SS k is hm n := by
                cases C; cases hS : SS k is hm n
                rw [hS] at c1 c2 c3 c4 c5
                simp only at c1 c2 c3 c4 c5
                subst c1 c2 c3 c4 c5
                rfl
              have := own_match X V hg
              rw [eC, show realI hm it = zE3 hm it.row from rfl, this] at hmm; cases hmm
            have hs := b4 i' it (Nat.le_refl _) (by lia) hg
            refine ⟨hs, ?_⟩
            rw [hd, List.map_cons, b3] at K
            rw [b3]
            rcases kept_inv K with ⟨eq, _⟩ | ⟨_, K'⟩
            · exfalso
              have eC : C = SS k is hm i' := by
                cases C; cases hS : SS k is hm i'
                rw [hS] at c1 c2 c3 c4 c5
                simp only at c1 c2 c3 c4 c5
                subst c1 c2 c3 c4 c5
                rfl
              have om : matchesC (SS k is hm i') it.row (realI hm it) = true := own_match X V hg
              rw [eC, ← eq, om] at hmm; cases hmm
            · exact K'
          subst b3
          simp only [chk, hmm, Bool.false_eq_true, if_false, o1, if_true]
          exact o2
end
end
theorem ctx_of {k : Nat} {is : List zC7} {hm : IM} (h : CodeOk k is) (a : AllocOk (ivals (is.map zC7.row) k) hm) : Ctx k is hm := by
  obtain ⟨g, hc, hs, hf1, hf, hl, hk⟩ := h.ch
  exact ⟨hc.sched hs, hc.cover (by lia), a.disj⟩
theorem reals_eq (hm : IM) (is : List zC7) : (is.map zC7.row).map (zE3 hm) = is.map (realI hm) := by
  rw [List.map_map]; rfl
theorem yes_of {k : Nat} {is : List zC7} {hm : IM} {ks : List Row} (h : CodeOk k is) (a : AllocOk (ivals (is.map zC7.row) k) hm) (K : Kept ((is.map zC7.row).map (zE3 hm)) ks) : chk (is.map zC7.row) ks (initC k) = true := by
  rw [reals_eq] at K
  exact sim (ctx_of h a) is.length 0 0 (initC k) ks rfl (Nat.zero_le _) (Nat.le_refl _) (Nat.zero_le _) K rfl rfl rfl rfl rfl fun j ij h1 h2 => by lia
theorem kept_has {p : Row} (hp : ¬ selfR p) : ∀ {a b : List Row}, Kept a b → p ∈ a → p ∈ b
  | _, _, .nil, h => h
  | _, _, .keep h, hm => by
    rcases List.mem_cons.mp hm with e | hm
    · simp only [e]; exact .head _
    · exact .tail _ (kept_has hp h hm)
  | _, _, .drop s h, hm => by
    rcases List.mem_cons.mp hm with e | hm
    · rw [e] at hp; exact absurd s hp
    · exact kept_has hp h hm
theorem some_of' {k : Nat} {is : List zC7} {hm : IM} {ks : List Row} (h : CodeOk k is) (K : Kept ((is.map zC7.row).map (zE3 hm)) ks) : ks ≠ [] := by
  obtain ⟨_, _, _, _, _, _, _, _, _, _, _, _, _, i, hi, hc⟩ := h
  rw [reals_eq] at K
  have : realI hm i ∈ ks := by
    refine kept_has (fun s => ?_) K (List.mem_map.mpr ⟨i, hi, rfl⟩)
    have := s.1
    cases i <;> first | (contradiction; done) | (injection this; done)
  intro e; rw [e] at this; cases this
noncomputable def nc (l : List Row) : Nat := (l.filter fun p => !isCopyR p).length
noncomputable def ni (l : List zC7) : Nat := (l.filter fun i => !(copyOf i).isSome).length
theorem isCopyR_eq (p : Row) : isCopyR p = (cpN p.nm && decide ((opAt p.ps 0).tag = "x") && decide ((opAt p.ps 1).tag = "x")) := rfl
theorem part_y {n : Int} {b : Pt} (h : samePart (.op (.y n)) b = true) : b = .op (.y n) := by
  cases b with
  | num i => exact noB h
  | op o => rw [of_decide_eq_true (show decide (Op.y n = o) = true from h)]
theorem shape_copy {hm : IM} {it : zC7} {p : Row} (h : zJ4 it.row p = true) : isCopyR p = (copyOf it).isSome := by
  cases hc : copyOf it with
  | some st =>
    have F := copy_facts hm (show copyOf it = some (st.1, st.2) from hc)
    simp only [zJ4, Bool.and_eq_true, decide_eq_true_eq] at h
    obtain ⟨⟨h1, h2⟩, h3⟩ := h
    have l2 : p.ps.length = 2 := by rw [← h1]; exact F.two
    match ha : it.row.ps, F.two, hb : p.ps, l2 with
    | [a1, a2], _, [b1, b2], _ =>
      rw [ha, hb] at h3
      simp only [List.zip_cons_cons, List.all_cons, Bool.and_eq_true] at h3
      have x1 : ∀ {a b : Pt}, (∃ o, a = .op o ∧ isTA o = true) → samePart a b = true → ∃ n, b = .op (.x n) := fun {a b} q z => by
        obtain ⟨o, rfl, q2⟩ := q
        cases o with
        | t n => cases b with
          | num i => injection z
          | op o' => cases o' with
            | x n => exact ⟨n, rfl⟩
            | _ => injection z
        | a n => cases b with
          | num i => injection z
          | op o' => cases o' with
            | x n => exact ⟨n, rfl⟩
            | _ => injection z
        | _ => injection q2
      obtain ⟨n1, e1⟩ := x1 (F.ta a1 (by rw [ha]; simp)) h3.1
      obtain ⟨n2, e2⟩ := x1 (F.ta a2 (by rw [ha]; simp)) h3.2.1
      have nm : p.nm = "get_variable" ∨ p.nm = "put_value" := by rw [← h2]; exact F.nm
      simp only [isCopyR, nm, hb, e1, e2, opAt, List.getElem?_cons_zero, List.getElem?_cons_succ, Op.tag, decide_true, Bool.and_self, Option.isSome_some]
  | none =>
    refine zC5 fun _ hk => ?_
    simp only [zJ4, Bool.and_eq_true, decide_eq_true_eq] at h
    obtain ⟨⟨h1, h2⟩, h3⟩ := h
    refine hk ?_
    simp only [isCopyR_eq, ← h2]
    have first : ∀ {n : Int} {r : List Pt}, it.row.ps = .op (.y n) :: r → opAt p.ps 0 = .y n := fun {n r} e => by
      rw [e] at h3 h1
      cases hb : p.ps with
      | nil => rw [hb] at h1; simp at h1
      | cons b bs =>
        rw [hb] at h3
        simp only [List.zip_cons_cons, List.all_cons, Bool.and_eq_true] at h3
        rw [part_y h3.1]; rfl
    cases it with
    | gvy n => rw [first (n := 1) rfl]; simp [Op.tag, g_yx]
    | pvy o => rw [first (n := 1) rfl]; simp [Op.tag, g_yx]
    | gvyt u => rw [first (n := 1) rfl]; simp [Op.tag, g_yx]
    | pv u o => injection hc
    | gv u o => injection hc
    | pva u o => injection hc
    | gvt u o => injection hc
    | _ => kernel_rfl
theorem left_copy {C : Ck} {it : zC7} (h : (leftOut C it.row).1 = true) : (copyOf it).isSome = true := by
  have key : copied C it.row = 0 → False := fun z => by unfold leftOut at h; rw [if_pos z] at h; injection h
  have no : cpN it.row.nm = false → False := fun z => key (by
    rw [cpN, decide_eq_false_iff_not, not_or] at z
    unfold copied; rw [if_neg z.1, if_neg z.2])
  have tg : ∀ n, copyTgt it.row = .y n → False := fun n e => by
    unfold leftOut at h
    rw [if_neg (fun z => key z), e] at h
    injection h
  cases it with
  | gvy n => exact (tg 1 (by kernel_rfl)).elim
  | gvyt n => exact (tg 1 (by kernel_rfl)).elim
  | pvy o => exact (key (by kernel_rfl)).elim
  | pv u o => rfl
  | gv u o => rfl
  | pva u o => rfl
  | gvt u o => rfl
  | _ => exact (no (by kernel_rfl)).elim
set_option tactic.hygienic true in
theorem chk_count (hm : IM) : ∀ (is : List zC7) (ks : List Row) (C : Ck), chk (is.map zC7.row) ks C = true → nc ks = ni is := by
  intro zz
  induction zz with
  | nil =>
    intro ks C h
    have : ks = [] := by simpa [chk] using h
    rw [this]; rfl
  | cons it is ih =>
    intro zz2
    cases zz2 with
    | nil =>
      intro C h
      simp only [List.map_cons, chk] at h
      split at h
      · rename_i q
        have := ih [] _ h
        have lc := left_copy q
        rw [this]
        unfold ni; rw [List.filter_cons, lc]; rfl
      · injection h
    | cons p ks =>
      intro C h
      simp only [List.map_cons, chk] at h
      split at h
      · rename_i q
        have := ih ks _ h
        have sh : zJ4 it.row p = true := by
          unfold matchesC at q
          split at q
          · assumption
          · injection q
        have e := shape_copy (hm := hm) sh
        simp only [nc, ni, List.filter_cons, e] at this ⊢
        split <;> simp [this]
      · split at h
        · rename_i q
          have := ih (p :: ks) _ h
          have lc := left_copy q
          rw [this]
          unfold ni; rw [List.filter_cons, lc]; rfl
        · injection h
theorem kept_count : ∀ {a b : List Row}, Kept a b → nc b = nc a
  | _, _, .nil => rfl
  | _, _, .keep h => by
    have := kept_count h
    simp only [nc, List.filter_cons] at this ⊢
    split <;> simp [this]
  | _, _, .drop s h => by
    have := kept_count h
    simp [nc, s.1] at this ⊢
    exact this
theorem real_count (hm : IM) : ∀ is : List zC7, nc (is.map (realI hm)) = ni is := by
  intro zz
  induction zz with
  | nil =>
    exact rfl
  | cons it is ih =>
    have := ih
    have e : isCopyR (realI hm it) = (copyOf it).isSome := copy_iff hm it
    simp only [nc, ni, List.map_cons, List.filter_cons, e] at this ⊢
    split <;> simp [this]
theorem no_of {k : Nat} {is : List zC7} {hm : IM} {ks : List Row} {i : Nat} {p : Row} (K : Kept ((is.map zC7.row).map (zE3 hm)) ks) (hp : ks[i]? = some p) (hc : isCopyR p = false) : chk (is.map zC7.row) (ks.take i ++ ks.drop (i + 1)) (initC k) = false := by
  rw [reals_eq] at K
  cases q : chk (is.map zC7.row) (ks.take i ++ ks.drop (i + 1)) (initC k) with
  | false => rfl
  | true =>
    exfalso
    have h1 := chk_count hm is _ _ q
    have h2 := kept_count K
    simp only [real_count] at h2
    obtain ⟨e1, e2⟩ := split1 hp
    have h3 : nc ks = nc (ks.take i ++ ks.drop (i + 1)) + 1 := by
      conv => lhs; rw [e1]
      simp only [nc, List.filter_append, List.filter_cons, hc, Bool.not_false, if_true, List.length_append, List.length_cons]
      lia
    lia
theorem plain : Plain := ⟨fun k is h => pre_of h, fun k is hm ks h a K => yes_of h a K, fun k is hm ks h K => some_of' h K, fun k is hm ks i p h K hp hc => no_of K hp hc⟩
theorem items_ints {R : WRecords} : ∀ {xs : List WData}, WShape.hasItems R xs .int = true → ∃ cells : List Int, xs = cells.map WData.int := by
  intro zz
  induction zz with
  | nil =>
    intro _
    exact ⟨[], rfl⟩
  | cons x xs ih =>
    intro h
    dsimp only [WShape.hasItems] at h
    simp only [Bool.and_eq_true] at h
    obtain ⟨h1, h2⟩ := h
    obtain ⟨cells, rfl⟩ := ih h2
    cases x with
    | int i => exact ⟨i :: cells, rfl⟩
    | _ => exact absurd (show false = true from h1) Bool.false_ne_true
theorem args_shape {R : WRecords} {args : List WData} (h : WShape.hasAll R args [.list .int] = true) : ∃ cells : List Int, args = [.list (cells.map WData.int)] := by
  obtain ⟨d, r, rfl, hd, hr⟩ := hasAllW_cons h
  have e : r = [] := by
    cases r with
    | nil => rfl
    | cons x y => exact absurd (show false = true from hr) Bool.false_ne_true
  subst e
  cases d with
  | list xs =>
    have hd' : (WShape.hasItems R xs .int || false) = true := hd
    rw [Bool.or_false] at hd'
    obtain ⟨cells, rfl⟩ := items_ints hd'
    exact ⟨cells, rfl⟩
  | _ => exact absurd (show false = true from hd) Bool.false_ne_true
theorem reads_ints {R : WRecords} {cl : Str → Option Addr} {h h' : Heap} : ∀ {cells : List Int} {vs : List Value} {as : List Addr}, ReadsAllW R cl h vs (cells.map WData.int) as → ReL h' (cells.map V.int) vs ∧ as = []
  | [], _, _, x => by cases x; exact ⟨rfl, rfl⟩
  | i :: r, _, _, x => by
    cases x with
    | cons a b => cases a with | int i t => exact ⟨⟨.int i t, _, rfl, ⟨t, rfl⟩, (reads_ints b).1⟩, by rw [(reads_ints (h' := h') b).2]; rfl⟩
theorem reads_scr {R : WRecords} {cl : Str → Option Addr} {h : Heap} {cells : List Int} {vals : List Value} {as : List Addr} (x : ReadsAllW R cl h vals [.list (cells.map WData.int)] as) :
    ∃ ls o vs n, vals = [.ref ls] ∧ h.get? ls = some o ∧ o.cls = .type "list" ∧ o.data = .seq vs n ∧ ∀ h', ReL h' (cells.map V.int) vs.toList := by
  cases x with
  | cons a b =>
    cases b
    cases a with
    | list g1 g2 g3 g4 => exact ⟨_, _, _, _, rfl, g1, g2, g3, fun h' => (reads_ints g4).1⟩
theorem pre_len {R : WRecords} {cells : List Int} (h : WTm.holds R (.and (.not (.lt (.lit (.int ((63 : Nat) : Int))) (.len (.arg 0)))) (.lit (.bool true))) { args := [.list (cells.map WData.int)] } = true) : cells.length ≤ 63 := by
  unfold WTm.holds at h
  by_cases q : (63 : Int) < (cells.length : Int)
  · simp [WTm.value, less?, Num.less?, q] at h
  · lia
theorem post_true {R : WRecords} {args ds : List WData} : WTm.holds R (.eq .res (.lit (.bool true))) { args := args, res := some (.bool true), after := ds } = true := by
  unfold WTm.holds
  simp [WTm.value]
  have : same (WData.bool true) (WData.bool true) = true := by kernel_rfl
  rw [this]
structure KFacts (K : Frag) : Prop where
  hA : (attrL.all fun p => attrOk K p.1 p.2) = true
  hM : (methL.all fun p => methOk K p.1 p.2.1 p.2.2) = true
  hN : (makeL.all fun p => makeOk K p.1 p.2) = true
  hF : (fnL.all fun f => keepIn K (.ref f)) = true
  hG : (globL.all fun p => nsIn K mainGlobals p.1 == some (some (.ref p.2))) = true
  hI : (globI.all fun p => match nsIn K mainGlobals p.1 with | some (some (.int i _)) => i == p.2 | _ => false) = true
  hB : (globB.all fun x => nsIn K mainGlobals x == some none) = true
  law : nsIn K mainGlobals "law" = some (some (.ref 457))
  fns : Fns K
  by_ : ∃ oc od osl pm cc, K.lookup 289 = some ⟨oc, od, .func (fnOf (fName S289) "by_start" (fArgs S289) (fBody S289) (fScope S289) .none .none .none pm none (.ref cc) .none), osl⟩ ∧ codeIn K (.ref cc) "by_start" = true ∧ codeHdIn K cc 284 = true
  no284 : K.lookup 284 = none
theorem ns_hide {h : Heap} {a b : Addr} {m : Str → Option Value} (N : h.Ns a m) (e : (h.hide b).get? a = h.get? a) : (h.hide b).Ns a m := by
  refine zC5 fun _ hk => ?_
  obtain ⟨o, es, ep, g, r⟩ := N
  refine hk ?_
  exact ⟨o, es, ep, e.trans g, r⟩
set_option tactic.hygienic true in
theorem theWalk {r : RowW} {q : Program} {loose : List Str} {XP : (Str → Option Value) → Heap → Prop} {K : Params → Frag} {as0 : List Addr} {e0 : ∀ P, as0 = (K P).map (·.1)} {d : DefRec} {kwd : List (Str × Expr)}
    (hK : ∀ P, KFacts (K P)) (hargs : r.args = [.list .int]) (hret : r.returns = .bool)
    (hpre : r.pre = .and (.not (.lt (.lit (.int ((63 : Nat) : Int))) (.len (.arg 0)))) (.lit (.bool true))) (hpost : r.post = .eq .res (.lit (.bool true))) (hraise : r.raises = []) (hn : d.name = "law") :
    WalkO q loose XP (kmHook K as0 e0 [284]).says r d kwd fun f vs => PySem.call f vs := by
  intro w s₀ s₁ mg mb Gr Y a o pm cd doc dV kV ho hd hcd hD hmg hg args vals as hp hlay hrd hwl hlo
  refine zC5 fun _ hk => ?_
  have X := km_in_of Y
  have h284 := km_tabs_of Y 284 (.head _)
  obtain ⟨p1, p2⟩ := pre_splitW hp
  rw [hargs] at p1
  obtain ⟨cells, rfl⟩ := args_shape p1
  rw [hpre] at p2
  have hlen := pre_len p2
  obtain ⟨ls, lo, vs, n, rfl, l1, l2, l3, l4⟩ := reads_scr hrd
  have T := Gr.T
  have KF := hK w.params
  have ne284 : ∀ b o, s₁.heap.get? b = some o → o.cls ≠ .none → b ≠ 284 := fun b o e hc z => by
    rw [z, h284] at e; obtain rfl := Option.some.inj e; exact hc rfl
  have keepH : ∀ b, b ≠ 284 → (s₁.heap.hide 284).get? b = s₁.heap.get? b := fun b hb => Heap.hide_ne _ hb
  have gone : (s₁.heap.hide 284).get? 284 = none := Heap.hide_self _ _
  have nsne : ∀ {b : Addr} {m : Str → Option Value}, s₁.heap.Ns b m → b ≠ 284 := fun {b m} N z => by
    obtain ⟨o, es, ep, e, hdd, _⟩ := N
    simp only [z, h284] at e; obtain rfl := Option.some.inj e; injection hdd
  have TR : TopRead q (looseW q loose) mg mb (s₁.heap.hide 284) := ⟨ns_hide T.g (keepH _ (nsne T.g)), ns_hide T.b (keepH _ (nsne T.b)),
    (let ⟨mc, N, e⟩ := T.nolimit; ⟨mc, ns_hide N (keepH _ (nsne N)), e⟩), T.builtins, T.free⟩
  have XH : (K w.params).In (s₁.heap.hide 284) := fun b o e => by
    rw [keepH]
    · exact X b o e
    · intro z; rw [z, KF.no284] at e; injection e
  refine hk ?_
  let c : Cx := ⟨r.prog, w, K w.params, s₁.heap.hide 284, q, looseW q loose, mg, mb, XH, TR, KF.hA, KF.hM, KF.hN, KF.hF, KF.hG, KF.hI, KF.hB⟩
  have ea : a = 457 := by
    have := mg_of X T.g KF.law
    rw [hn] at hmg
    rw [this] at hmg; cases hmg; rfl
  subst ea
  obtain ⟨bm, ob, b1, b2, b3, b4, b5, b6⟩ := T.bmain
  have bmAt : BmAt c := ⟨bm, ob, b1, b2, (keepH bm (ne284 bm ob b3 (by rw [b4]; simp))).trans b3, b4, b5, b6⟩
  have hB : scrAt c ls (cells.map V.int) := ⟨lo, vs, n, (keepH ls (ne284 ls lo l1 (by rw [l2]; simp))).trans l1, l2, l3, l4 _⟩
  have R := rf457 (c := c) KF.fns hB (rf289 ⟨KF.by_, bmAt⟩) plain
  have S : HS c (fun b => (s₁.heap.hide 284).get? b) (fun b => if b = 284 then some (.tab true) else none) s₁ := by
    refine ⟨fun b o e => e, fun b o e => ?_, fun b o e => ?_, fun b e => ?_, fun b C dd fs e => ?_, fun b o e dd => ?_⟩
    · rw [← keepH b (fun z => by rw [z, gone] at e; injection e)]; exact e
    · (try dsimp only at e)
      split at e
      · rename_i z; obtain rfl := Option.some.inj e; rw [z]
        exact ⟨_, h284, by simp [TriplesOk], fun _ => by simp [codeAmong]⟩
      · injection e
    · (try dsimp only at e)
      by_cases z : b = 284
      · rw [z]; exact gone
      · rw [if_neg z] at e; exact absurd rfl e
    · (try dsimp only at e)
      split at e
      · cases e
      · injection e
    · (try dsimp only at e)
      split at e
      · obtain rfl := Option.some.inj e; injection dd
      · injection e
  have rm : Room callerA 8 := ⟨rfl, by decide, by decide⟩
  refine wpAny_call (codeAny_mono (R callerA rm _ _ s₁ (fun x H' => x = .bool true ∧ H' 284 = some (.tab false)) [.ref ls] [.ref ls] S ⟨.ref ls, [], rfl, rfl, rfl⟩ ⟨rfl, hlen, by simp, fun H' e => ⟨rfl, e⟩⟩) fun res s' z => ?_)
  rcases res with e | (v | _ | _ | _) <;> first | exact z.elim | skip
  all_goals first | exact z.elim | skip
  refine zC5 fun _ hk => ?_
  obtain ⟨x, H', rx, S', ex, rfl, ht⟩ := z
  have rx2 : _ = Value.bool true := rx
  subst rx2
  obtain ⟨ps, hps, _⟩ := S'.obj 284 _ ht
  refine hk ?_
  refine ⟨.inl ⟨.bool true, .bool true, [], rfl, fun cls => ?_, .bool true, ?_, fun _ => ⟨List.nodup_nil, fun a h => by cases h⟩⟩, ?_, ex.os, .of_eq (ex.gens.trans hg)⟩
  · show (r.raises.any _) = false
    rw [hraise]; rfl
  · show (WShape.has r.records (.bool true) r.returns && r.post.holds r.records _) = true
    simp only [hret, hpost, post_true]; rfl
  · refine ⟨fun b o e => ?_, fun b o e => ?_⟩
    · by_cases z : b = 284
      · subst z
        rw [h284] at e; obtain rfl := Option.some.inj e
        refine .inr (.inl ⟨?_, rfl, _, ps, rfl, ?_⟩)
        · refine zC5 fun _ hk => ?_
          obtain ⟨_, _, _, _, cc, _, _, hhd⟩ := KF.by_
          obtain ⟨oo, cvs, _, _, _, _, _, _, _, g1, g2, g3, g4, _⟩ := codeHd_of_K X hhd
          refine hk ?_
          exact ⟨cc, oo, cvs, g1, g2, g3, g4⟩
        · rw [hps]; simp [tabObj]
      · exact .inl (S'.prot b o ((keepH b z).trans e))
    · by_cases z : b = 284
      · subst z; exact ⟨_, hps⟩
      · exact ⟨o, S'.prot b o ((keepH b z).trans e)⟩
noncomputable def obOf (K : Frag) (f : Addr) : Obj := (K.lookup f).getD ⟨.none, none, .plain, #[]⟩
noncomputable def pmOf (K : Frag) (f : Addr) : Value := match (obOf K f).data with | .func fd => fd.pyModule | _ => .none
noncomputable def cdOf (K : Frag) (f : Addr) : Value := match (obOf K f).data with | .func fd => fd.code | _ => .none
noncomputable def adOf (K : Frag) (f : Addr) : Addr := match cdOf K f with | .ref a => a | _ => 0
noncomputable abbrev FnLook (K : Frag) (f : Addr) (S : Stmt) (qual : Str) : Prop := K.lookup f = some ⟨(obOf K f).cls, (obOf K f).dict, .func (fnOf (fName S) qual (fArgs S) (fBody S) (fScope S) .none .none .none (pmOf K f) none (cdOf K f) .none), (obOf K f).slots⟩
theorem zF4 {K : Frag} {f : Addr} {S : Stmt} {qual : Str} (h : FnLook K f S qual) (h2 : codeIn K (cdOf K f) qual = true) : FnAt K f S qual := ⟨_, _, _, _, _, h, h2⟩
theorem by_of {K : Frag} (h : K.lookup 289 = some ⟨(obOf K 289).cls, (obOf K 289).dict, .func (fnOf (fName S289) "by_start" (fArgs S289) (fBody S289) (fScope S289) .none .none .none (pmOf K 289) none (.ref (adOf K 289)) .none), (obOf K 289).slots⟩) (h2 : codeIn K (.ref (adOf K 289)) "by_start" = true) (h3 : codeHdIn K (adOf K 289) 284 = true) :
    ∃ oc od osl pm cc, K.lookup 289 = some ⟨oc, od, .func (fnOf (fName S289) "by_start" (fArgs S289) (fBody S289) (fScope S289) .none .none .none pm none (.ref cc) .none), osl⟩ ∧ codeIn K (.ref cc) "by_start" = true ∧ codeHdIn K cc 284 = true := ⟨_, _, _, _, _, h, h2, h3⟩
end Mine
section
open PySem PySem.W PySem.W.X PyProof.Rows
set_option Elab.async true
set_option maxHeartbeats 0
noncomputable def Mine.hd2.tw5737332735241192480 : Nat := 0
noncomputable def Mine.hd2.tw7901147057460837437 : Nat := 0
noncomputable def Mine.hd2.tw10331305403890321106 : Nat := 0
noncomputable def Mine.hd2.tw12577888692292388395 : Nat := 0
noncomputable def Mine.hd2.tw17565516242177167160 : Nat := 0
noncomputable def Mine.hd2.tw17565716242177167160 : Nat := 0
noncomputable def Mine.hd2.tw13464015321323206389 : Nat := 0
noncomputable def Mine.hd2.tw15655357185535536748 : Nat := 0
noncomputable def Mine.hd2.tw15938916707132117223 : Nat := 0
noncomputable def Mine.hd2.tw10585248113266485543 : Nat := 0
noncomputable def Mine.hd2.tw11125108549718551219 : Nat := 0
noncomputable def Mine.hd2.tw2938500348875473115 : Nat := 0
noncomputable def Mine.hd2.tw9001575777495838784 : Nat := 0
noncomputable def Mine.hd2.tw7290744685163844800 : Nat := 0
noncomputable def Mine.hd2.tw8820833757433601248 : Nat := 0
noncomputable def Mine.hd2.tw16715680138880398560 : Nat := 0
noncomputable def Mine.hd2.tw14273107555417637312 : Nat := 0
noncomputable def Mine.hd2.tw629296718965451232 : Nat := 0
noncomputable def Mine.hd2.tw6009688105174031872 : Nat := 0
noncomputable def Mine.hd2.tw4608914758703064736 : Nat := 0
noncomputable def Mine.hd2.tw5786896752989776576 : Nat := 0
noncomputable def Mine.hd2.tw11081427018123450144 : Nat := 0
noncomputable def Mine.hd2.tw10360535843966251840 : Nat := 0
noncomputable def Mine.hd2.tw13121207220110486336 : Nat := 0
noncomputable def Mine.hd2.tw6433835771088390112 : Nat := 0
noncomputable def Mine.hd2.tw401881018233993473 : Nat := 0
noncomputable def Mine.hd2.tw6144609128279099713 : Nat := 0
noncomputable def Mine.hd2.tw55607396526106977 : Nat := 0
noncomputable def Mine.hd2.tw14510660280629541473 : Nat := 0
noncomputable def Mine.hd2.tw4384171828855458497 : Nat := 0
noncomputable def Mine.hd2.tw10254093599156545313 : Nat := 0
noncomputable def Mine.hd2.tw7128966471238075169 : Nat := 0
noncomputable def Mine.hd2.tw4128767988726417249 : Nat := 0
noncomputable def Mine.hd2.tw3623368656732710881 : Nat := 0
noncomputable def Mine.hd2.tw9317197213634029570 : Nat := 0
noncomputable def Mine.hd2.tw8667247941962200066 : Nat := 0
noncomputable def Mine.hd2.tw6758173574556093506 : Nat := 0
noncomputable def Mine.hd2.tw2012775963990416642 : Nat := 0
noncomputable def Mine.hd2.tw13507579669612370178 : Nat := 0
noncomputable def Mine.hd2.tw12988776478815092098 : Nat := 0
noncomputable def Mine.hd2.tw1909785642558140098 : Nat := 0
noncomputable def Mine.hd2.tw6360799348238518018 : Nat := 0
noncomputable def Mine.hd2.tw7739015951003946850 : Nat := 0
noncomputable def Mine.hd2.tw9514616225478430594 : Nat := 0
noncomputable def Mine.hd2.tw10188748099632924578 : Nat := 0
noncomputable def Mine.hd2.tw5858988257725350915 : Nat := 0
noncomputable def Mine.hd2.tw18417741203989945379 : Nat := 0
noncomputable def Mine.hd2.tw13810677373062009955 : Nat := 0
noncomputable def Mine.hd2.tw9119293857461180547 : Nat := 0
noncomputable def Mine.hd2.tw14078174918965225603 : Nat := 0
noncomputable def Mine.hd2.tw5221819983072792899 : Nat := 0
noncomputable def Mine.hd2.tw8790911669259295075 : Nat := 0
noncomputable def Mine.hd2.tw16916649635783214691 : Nat := 0
noncomputable def Mine.hd2.tw17237646537067781763 : Nat := 0
noncomputable def Mine.hd2.tw21574547610721987 : Nat := 0
noncomputable def Mine.hd2.tw3786290236359867107 : Nat := 0
noncomputable def Mine.hd2.tw3428949384659299139 : Nat := 0
noncomputable def Mine.hd2.tw18059104594531047267 : Nat := 0
noncomputable def Mine.hd2.tw17729420277734569955 : Nat := 0
noncomputable def Mine.hd2.tw16633211826121731172 : Nat := 0
noncomputable def Mine.hd2.tw18376440725419151620 : Nat := 0
noncomputable def Mine.hd2.tw11886118393436536228 : Nat := 0
noncomputable def Mine.hd2.tw2239638238429186564 : Nat := 0
noncomputable def Mine.hd2.tw17831716376430199396 : Nat := 0
noncomputable def Mine.hd2.tw14250843949610307300 : Nat := 0
noncomputable def Mine.hd2.tw1863054346547387268 : Nat := 0
noncomputable def Mine.hd2.tw16565451473518323588 : Nat := 0
noncomputable def Mine.hd2.tw3621270667139059588 : Nat := 0
noncomputable def Mine.hd2.tw10533107972697636804 : Nat := 0
noncomputable def Mine.hd2.tw1903811608394549253 : Nat := 0
noncomputable def Mine.hd2.tw13635312476280050021 : Nat := 0
noncomputable def Mine.hd2.tw10189825699233536357 : Nat := 0
noncomputable def Mine.hd2.tw2087716684499464581 : Nat := 0
noncomputable def Mine.hd2.tw15719296428168962565 : Nat := 0
noncomputable def Mine.hd2.tw5096854735421250053 : Nat := 0
noncomputable def Mine.hd2.tw7422703064994039397 : Nat := 0
noncomputable def Mine.hd2.tw5521143679866273701 : Nat := 0
noncomputable def Mine.hd2.tw17809598279345394790 : Nat := 0
noncomputable def Mine.hd2.tw13444297048616498438 : Nat := 0
noncomputable def Mine.hd2.tw10263914928000536134 : Nat := 0
noncomputable def Mine.hd2.tw8844539425579231078 : Nat := 0
noncomputable def Mine.hd2.tw12395118295190747207 : Nat := 0
noncomputable def Mine.hd2.tw3231304084998413415 : Nat := 0
noncomputable def Mine.hd2.tw4531429069147537543 : Nat := 0
noncomputable def Mine.hd2.tw7745089850723280071 : Nat := 0
noncomputable def Mine.hd2.tw10628401907142525191 : Nat := 0
noncomputable def Mine.hd2.tw6442998482030438663 : Nat := 0
noncomputable def Mine.hd2.tw1373332207738206599 : Nat := 0
noncomputable def Mine.hd2.tw7010516460443940295 : Nat := 0
noncomputable def Mine.hd2.tw17377126412373271015 : Nat := 0
noncomputable def Mine.hd2.tw1879348650351245959 : Nat := 0
noncomputable def Mine.hd2.tw5506855588011826855 : Nat := 0
noncomputable def Mine.hd2.tw15378289749790382759 : Nat := 0
noncomputable def Mine.hd2.tw5660746635817024167 : Nat := 0
noncomputable def Mine.hd2.tw2331008334238325607 : Nat := 0
noncomputable def Mine.hd2.tw3785130402949710695 : Nat := 0
noncomputable def Mine.hd2.tw8090823174340995975 : Nat := 0
noncomputable def Mine.hd2.tw13051000892100466696 : Nat := 0
noncomputable def Mine.hd2.tw15862463550356848744 : Nat := 0
noncomputable def Mine.hd2.tw992009045571396808 : Nat := 0
noncomputable def Mine.hd2.tw8996479975297183944 : Nat := 0
noncomputable def Mine.hd2.tw17415303052053095784 : Nat := 0
noncomputable def Mine.hd2.tw9250895064746319272 : Nat := 0
noncomputable def Mine.hd2.tw3367576524875659688 : Nat := 0
noncomputable def Mine.hd2.tw1077975192478734824 : Nat := 0
noncomputable def Mine.hd2.tw2878530497415329576 : Nat := 0
noncomputable def Mine.hd2.tw7586906871858947048 : Nat := 0
noncomputable def Mine.hd2.tw17760945830544258121 : Nat := 0
noncomputable def Mine.hd2.tw734633284641387689 : Nat := 0
noncomputable def Mine.hd2.tw16686898776239975625 : Nat := 0
noncomputable def Mine.hd2.tw15949631357628695753 : Nat := 0
noncomputable def Mine.hd2.tw2816443026691090857 : Nat := 0
noncomputable def Mine.hd2.tw12865084311106458185 : Nat := 0
noncomputable def Mine.hd2.tw15959769663615884937 : Nat := 0
noncomputable def Mine.hd2.tw17142955953045606057 : Nat := 0
noncomputable def Mine.hd2.tw16891520828879567593 : Nat := 0
noncomputable def Mine.hd2.tw6101760290850618121 : Nat := 0
noncomputable def Mine.hd2.tw15271477745785516841 : Nat := 0
noncomputable def Mine.hd2.tw17333751506050260841 : Nat := 0
noncomputable def Mine.hd2.tw6727789753133388713 : Nat := 0
noncomputable def Mine.hd2.tw13162815524414113834 : Nat := 0
noncomputable def Mine.hd2.tw2235074827555887178 : Nat := 0
noncomputable def Mine.hd2.tw8651155517412177002 : Nat := 0
noncomputable def Mine.hd2.tw17149979933336599690 : Nat := 0
noncomputable def Mine.hd2.tw5801848462154069194 : Nat := 0
noncomputable def Mine.hd2.tw11818442767299857642 : Nat := 0
noncomputable def Mine.hd2.tw11129188869610538314 : Nat := 0
noncomputable def Mine.hd2.tw5724285506335090026 : Nat := 0
noncomputable def Mine.hd2.tw4222651890790745610 : Nat := 0
noncomputable def Mine.hd2.tw15696999210736300618 : Nat := 0
noncomputable def Mine.hd2.tw537339855394300490 : Nat := 0
noncomputable def Mine.hd2.tw13195917780136099402 : Nat := 0
noncomputable def Mine.hd2.tw3556367115372997290 : Nat := 0
noncomputable def Mine.hd2.tw7322722211573931690 : Nat := 0
noncomputable def Mine.hd2.tw7313264215350837002 : Nat := 0
noncomputable def Mine.hd2.tw5760106387988716458 : Nat := 0
noncomputable def Mine.hd2.tw7565179688163074059 : Nat := 0
noncomputable def Mine.hd2.tw14888089762894650475 : Nat := 0
noncomputable def Mine.hd2.tw6718111456414773483 : Nat := 0
noncomputable def Mine.hd2.tw17844157391508113707 : Nat := 0
noncomputable def Mine.hd2.tw5909614296626568523 : Nat := 0
noncomputable def Mine.hd2.tw14023998935749123435 : Nat := 0
noncomputable def Mine.hd2.tw14170056426808676843 : Nat := 0
noncomputable def Mine.hd2.tw1662680480027834859 : Nat := 0
noncomputable def Mine.hd2.tw6094729067435387435 : Nat := 0
noncomputable def Mine.hd2.tw2164801795699636843 : Nat := 0
noncomputable def Mine.hd2.tw521047591097249419 : Nat := 0
noncomputable def Mine.hd2.tw262287036633283243 : Nat := 0
noncomputable def Mine.hd2.tw12698942917634718603 : Nat := 0
noncomputable def Mine.hd2.tw3154296723918424043 : Nat := 0
noncomputable def Mine.hd2.tw10949718306181768204 : Nat := 0
noncomputable def Mine.hd2.tw10041127296896847916 : Nat := 0
noncomputable def Mine.hd2.tw17402436503830534284 : Nat := 0
noncomputable def Mine.hd2.tw17154464714986587404 : Nat := 0
noncomputable def Mine.hd2.tw14347230989661045164 : Nat := 0
noncomputable def Mine.hd2.tw13170595746660695564 : Nat := 0
noncomputable def Mine.hd2.tw13818045471477145132 : Nat := 0
noncomputable def Mine.hd2.tw710885876865845836 : Nat := 0
noncomputable def Mine.hd2.tw3197869948925992524 : Nat := 0
noncomputable def Mine.hd2.tw11081256818881743468 : Nat := 0
noncomputable def Mine.hd2.tw14998125846048791180 : Nat := 0
noncomputable def Mine.hd2.tw12114058742522675116 : Nat := 0
noncomputable def Mine.hd2.tw1435591422723803084 : Nat := 0
noncomputable def Mine.hd2.tw16253987971922178028 : Nat := 0
noncomputable def Mine.hd2.tw3531249046930223117 : Nat := 0
noncomputable def Mine.hd2.tw7651836234707599437 : Nat := 0
noncomputable def Mine.hd2.tw4272443717928200365 : Nat := 0
noncomputable def Mine.hd2.tw3122970029111052557 : Nat := 0
noncomputable def Mine.hd2.tw18121077527062402413 : Nat := 0
noncomputable def Mine.hd2.tw15644325043196869005 : Nat := 0
noncomputable def Mine.hd2.tw674985084136377837 : Nat := 0
noncomputable def Mine.hd2.tw1915632612733649517 : Nat := 0
noncomputable def Mine.hd2.tw12580300788034773645 : Nat := 0
noncomputable def Mine.hd2.tw12397336453873556141 : Nat := 0
noncomputable def Mine.hd2.tw4222025404068306701 : Nat := 0
noncomputable def Mine.hd2.tw6943482231213170573 : Nat := 0
noncomputable def Mine.hd2.tw12687031005954012045 : Nat := 0
noncomputable def Mine.hd2.tw3935993334847119277 : Nat := 0
noncomputable def Mine.hd2.tw6602815505063476238 : Nat := 0
noncomputable def Mine.hd2.tw2946353583756650574 : Nat := 0
noncomputable def Mine.hd2.tw17971443411627580558 : Nat := 0
noncomputable def Mine.hd2.tw12480029167471659182 : Nat := 0
noncomputable def Mine.hd2.tw14777778161554218222 : Nat := 0
noncomputable def Mine.hd2.tw15648364054427486478 : Nat := 0
noncomputable def Mine.hd2.tw14521410870882814254 : Nat := 0
noncomputable def Mine.hd2.tw1860114071392357742 : Nat := 0
noncomputable def Mine.hd2.tw593880118170195310 : Nat := 0
noncomputable def Mine.hd2.tw332627713378957678 : Nat := 0
noncomputable def Mine.hd2.tw9975164428627517902 : Nat := 0
noncomputable def Mine.hd2.tw13175543063059372526 : Nat := 0
noncomputable def Mine.hd2.tw6222138239097249262 : Nat := 0
noncomputable def Mine.hd2.tw5938086500499771950 : Nat := 0
noncomputable def Mine.hd2.tw12361009660780359342 : Nat := 0
noncomputable def Mine.hd2.tw754285140521276078 : Nat := 0
noncomputable def Mine.hd2.tw13116479308923629230 : Nat := 0
noncomputable def Mine.hd2.tw5808416884517272238 : Nat := 0
noncomputable def Mine.hd2.tw8398703261778151150 : Nat := 0
noncomputable def Mine.hd2.tw12896583090037188366 : Nat := 0
noncomputable def Mine.hd2.tw1595972307316097103 : Nat := 0
noncomputable def Mine.hd2.tw13260789386932730063 : Nat := 0
noncomputable def Mine.hd2.tw6355366842176592239 : Nat := 0
noncomputable def Mine.hd2.tw496918402663604591 : Nat := 0
noncomputable def Mine.hd2.tw3571847127490814351 : Nat := 0
noncomputable def Mine.hd2.tw3433207971968412175 : Nat := 0
noncomputable def Mine.hd2.tw9178447152694605359 : Nat := 0
noncomputable def Mine.hd2.tw18019478846407220815 : Nat := 0
noncomputable def Mine.hd2.tw7369966113030148815 : Nat := 0
noncomputable def Mine.hd2.tw4020321512730744655 : Nat := 0
noncomputable def Mine.hd2.tw604307690595882831 : Nat := 0
noncomputable def Mine.hd2.tw9052652615091719023 : Nat := 0
noncomputable def Mine.hd2.tw17048861347830081487 : Nat := 0
noncomputable def Mine.hd2.tw14396293657529361391 : Nat := 0
noncomputable def Mine.hd2.tw1386277679703014416 : Nat := 0
noncomputable def Mine.hd2.tw10850752361300743184 : Nat := 0
noncomputable def Mine.hd2.tw14939525105098405936 : Nat := 0
noncomputable def Mine.hd2.tw13768295445995168912 : Nat := 0
noncomputable def Mine.hd2.tw16457211209562306832 : Nat := 0
noncomputable def Mine.hd2.tw11487665957702846800 : Nat := 0
noncomputable def Mine.hd2.tw18251150534381370768 : Nat := 0
noncomputable def Mine.hd2.tw1686081868800429584 : Nat := 0
noncomputable def Mine.hd2.tw101041087702457904 : Nat := 0
noncomputable def Mine.hd2.tw2367618826561235696 : Nat := 0
noncomputable def Mine.hd2.tw13619548112358091664 : Nat := 0
noncomputable def Mine.hd2.tw4431069293143485328 : Nat := 0
noncomputable def Mine.hd2.tw6872981795101872465 : Nat := 0
noncomputable def Mine.hd2.tw563407987707677041 : Nat := 0
noncomputable def Mine.hd2.tw3959511540923809137 : Nat := 0
noncomputable def Mine.hd2.tw767523161667480977 : Nat := 0
noncomputable def Mine.hd2.tw15898290613689916817 : Nat := 0
noncomputable def Mine.hd2.tw18248147197437350449 : Nat := 0
noncomputable def Mine.hd2.tw4047575660166857361 : Nat := 0
noncomputable def Mine.hd2.tw6335107781196790513 : Nat := 0
noncomputable def Mine.hd2.tw12763764424270198577 : Nat := 0
noncomputable def Mine.hd2.tw8108540578436229937 : Nat := 0
noncomputable def Mine.hd2.tw17414271194069601105 : Nat := 0
noncomputable def Mine.hd2.tw10219850682025270129 : Nat := 0
noncomputable def Mine.hd2.tw9974214430724157393 : Nat := 0
noncomputable def Mine.hd2.tw615674736870440945 : Nat := 0
noncomputable def Mine.hd2.tw16224822230647373906 : Nat := 0
noncomputable def Mine.hd2.tw12537377171073117298 : Nat := 0
noncomputable def Mine.hd2.tw13177813741639216242 : Nat := 0
noncomputable def Mine.hd2.tw2126447280774793394 : Nat := 0
noncomputable def Mine.hd2.tw16289564860063074514 : Nat := 0
noncomputable def Mine.hd2.tw7973587357895806194 : Nat := 0
noncomputable def Mine.hd2.tw11418891354488242482 : Nat := 0
noncomputable def Mine.hd2.tw17039020653511099826 : Nat := 0
noncomputable def Mine.hd2.tw8881121161803933202 : Nat := 0
noncomputable def Mine.hd2.tw5524305674342914610 : Nat := 0
noncomputable def Mine.hd2.tw14822852427591402130 : Nat := 0
noncomputable def Mine.hd2.tw12437961735183429394 : Nat := 0
noncomputable def Mine.hd2.tw14163117343867048754 : Nat := 0
noncomputable def Mine.hd2.tw5150017175976815442 : Nat := 0
noncomputable def Mine.hd2.tw16347485515786729298 : Nat := 0
noncomputable def Mine.hd2.tw8642559067746812850 : Nat := 0
noncomputable def Mine.hd2.tw17883529072271118419 : Nat := 0
noncomputable def Mine.hd2.tw1935317536839960691 : Nat := 0
noncomputable def Mine.hd2.tw7567016876032755827 : Nat := 0
noncomputable def Mine.hd2.tw16424793038766946419 : Nat := 0
noncomputable def Mine.hd2.tw8065851819844010131 : Nat := 0
noncomputable def Mine.hd2.tw4481329712052173971 : Nat := 0
noncomputable def Mine.hd2.tw14064317837418037555 : Nat := 0
noncomputable def Mine.hd2.tw18005265497134895539 : Nat := 0
noncomputable def Mine.hd2.tw10272945827294731763 : Nat := 0
noncomputable def Mine.hd2.tw3486723893036766803 : Nat := 0
noncomputable def Mine.hd2.tw11970665417900345971 : Nat := 0
noncomputable def Mine.hd2.tw8417349901890957011 : Nat := 0
noncomputable def Mine.hd2.tw14379076838107445011 : Nat := 0
noncomputable def Mine.hd2.tw16249154343376908211 : Nat := 0
noncomputable def Mine.hd2.tw15231150651594951603 : Nat := 0
noncomputable def Mine.hd2.tw4564416937610578931 : Nat := 0
noncomputable def Mine.hd2.tw2769112049811719188 : Nat := 0
noncomputable def Mine.hd2.tw11636861072522841108 : Nat := 0
noncomputable def Mine.hd2.tw3574309194180151348 : Nat := 0
noncomputable def Mine.hd2.tw17680995164864114740 : Nat := 0
noncomputable def Mine.hd2.tw12484154373126971508 : Nat := 0
noncomputable def Mine.hd2.tw10392855127027845396 : Nat := 0
noncomputable def Mine.hd2.tw13434019930319771924 : Nat := 0
noncomputable def Mine.hd2.tw7998344961517463956 : Nat := 0
noncomputable def Mine.hd2.tw10903109540234210708 : Nat := 0
noncomputable def Mine.hd2.tw10470765325327829652 : Nat := 0
noncomputable def Mine.hd2.tw10666633089758425780 : Nat := 0
noncomputable def Mine.hd2.tw6586011627591172788 : Nat := 0
noncomputable def Mine.hd2.tw9749753934752944884 : Nat := 0
noncomputable def Mine.hd2.tw3402980386217941748 : Nat := 0
noncomputable def Mine.hd2.tw8883832819917700884 : Nat := 0
noncomputable def Mine.hd2.tw7235931902288160564 : Nat := 0
noncomputable def Mine.hd2.tw5499910793742561429 : Nat := 0
noncomputable def Mine.hd2.tw12887476875452498069 : Nat := 0
noncomputable def Mine.hd2.tw353303069719100757 : Nat := 0
noncomputable def Mine.hd2.tw6676478726720251381 : Nat := 0
noncomputable def Mine.hd2.tw1836901660661362197 : Nat := 0
noncomputable def Mine.hd2.tw16549696160805026549 : Nat := 0
noncomputable def Mine.hd2.tw5203767396539817749 : Nat := 0
noncomputable def Mine.hd2.tw17696548171621591989 : Nat := 0
noncomputable def Mine.hd2.tw15717762271390065686 : Nat := 0
noncomputable def Mine.hd2.tw6654425124794004566 : Nat := 0
noncomputable def Mine.hd2.tw391315536267058294 : Nat := 0
noncomputable def Mine.hd2.tw1520809361914864758 : Nat := 0
noncomputable def Mine.hd2.tw7731060619895641366 : Nat := 0
noncomputable def Mine.hd2.tw4436973419971921206 : Nat := 0
noncomputable def Mine.hd2.tw12663200494614407574 : Nat := 0
noncomputable def Mine.hd2.tw12906163079172978134 : Nat := 0
noncomputable def Mine.hd2.tw5894657894921262582 : Nat := 0
noncomputable def Mine.hd2.tw18097591840932859414 : Nat := 0
noncomputable def Mine.hd2.tw5272585545272146486 : Nat := 0
noncomputable def Mine.hd2.tw1032505069526019670 : Nat := 0
noncomputable def Mine.hd2.tw11174228389967080086 : Nat := 0
noncomputable def Mine.hd2.tw15215235494914212502 : Nat := 0
noncomputable def Mine.hd2.tw17308713692068450198 : Nat := 0
noncomputable def Mine.hd2.tw6985218532863665046 : Nat := 0
noncomputable def Mine.hd2.tw18418512666878738487 : Nat := 0
noncomputable def Mine.hd2.tw14821936039021965399 : Nat := 0
noncomputable def Mine.hd2.tw14686837934422546615 : Nat := 0
noncomputable def Mine.hd2.tw9677877252148682199 : Nat := 0
noncomputable def Mine.hd2.tw9559635939144795767 : Nat := 0
noncomputable def Mine.hd2.tw1505970067136714487 : Nat := 0
noncomputable def Mine.hd2.tw4987636919662039959 : Nat := 0
noncomputable def Mine.hd2.tw17610023445318247383 : Nat := 0
noncomputable def Mine.hd2.tw5075845328937122775 : Nat := 0
noncomputable def Mine.hd2.tw13768875234911871128 : Nat := 0
noncomputable def Mine.hd2.tw9456819424216790232 : Nat := 0
noncomputable def Mine.hd2.tw8006859400109840664 : Nat := 0
noncomputable def Mine.hd2.tw14921811630059155960 : Nat := 0
noncomputable def Mine.hd2.tw5331086248898644504 : Nat := 0
noncomputable def Mine.hd2.tw2348690137466451480 : Nat := 0
noncomputable def Mine.hd2.tw11253710270555237016 : Nat := 0
noncomputable def Mine.hd2.tw4013735811783285400 : Nat := 0
noncomputable def Mine.hd2.tw17081775300665929400 : Nat := 0
noncomputable def Mine.hd2.tw16730665260891833016 : Nat := 0
noncomputable def Mine.hd2.tw9779664457168377592 : Nat := 0
noncomputable def Mine.hd2.tw14472753914779276088 : Nat := 0
noncomputable def Mine.hd2.tw10001107529534686008 : Nat := 0
noncomputable def Mine.hd2.tw16635775124085440312 : Nat := 0
noncomputable def Mine.hd2.tw1256580951684823992 : Nat := 0
noncomputable def Mine.hd2.tw4986522300587698104 : Nat := 0
noncomputable def Mine.hd2.tw32522111057463545 : Nat := 0
noncomputable def Mine.hd2.tw11149403225895476569 : Nat := 0
noncomputable def Mine.hd2.tw13124616459249873497 : Nat := 0
noncomputable def Mine.hd2.tw622305421618594425 : Nat := 0
noncomputable def Mine.hd2.tw7290428043505870489 : Nat := 0
noncomputable def Mine.hd2.tw15423517189023148729 : Nat := 0
noncomputable def Mine.hd2.tw6454775635760338649 : Nat := 0
noncomputable def Mine.hd2.tw18331866940933885689 : Nat := 0
noncomputable def Mine.hd2.tw14401057463952056089 : Nat := 0
noncomputable def Mine.hd2.tw4479011239912934169 : Nat := 0
noncomputable def Mine.hd2.tw11564645500747994937 : Nat := 0
noncomputable def Mine.hd2.tw2896239165755899801 : Nat := 0
noncomputable def Mine.hd2.tw6098957265708142521 : Nat := 0
noncomputable def Mine.hd2.tw3660936679093931993 : Nat := 0
noncomputable def Mine.hd2.tw15176672583364487161 : Nat := 0
noncomputable def Mine.hd2.tw71533331695246426 : Nat := 0
noncomputable def Mine.hd2.tw11153258991729135738 : Nat := 0
noncomputable def Mine.hd2.tw5361115814481138938 : Nat := 0
noncomputable def Mine.hd2.tw8235645056348259674 : Nat := 0
noncomputable def Mine.hd2.tw3502989392171735418 : Nat := 0
noncomputable def Mine.hd2.tw15191579460534920666 : Nat := 0
noncomputable def Mine.hd2.tw13061873611917540826 : Nat := 0
noncomputable def Mine.hd2.tw13874339593932663290 : Nat := 0
noncomputable def Mine.hd2.tw5925304531832806970 : Nat := 0
noncomputable def Mine.hd2.tw10191696753133945466 : Nat := 0
noncomputable def Mine.hd2.tw7114538484913203130 : Nat := 0
noncomputable def Mine.hd2.tw4208630012958610394 : Nat := 0
noncomputable def Mine.hd2.tw5158208639234804763 : Nat := 0
noncomputable def Mine.hd2.tw2108963761862365243 : Nat := 0
noncomputable def Mine.hd2.tw5439220691504817211 : Nat := 0
noncomputable def Mine.hd2.tw12501706066654292219 : Nat := 0
noncomputable def Mine.hd2.tw4138052882804363771 : Nat := 0
noncomputable def Mine.hd2.tw17130049829372506651 : Nat := 0
noncomputable def Mine.hd2.tw1444440135474070075 : Nat := 0
noncomputable def Mine.hd2.tw13948321209307596347 : Nat := 0
noncomputable def Mine.hd2.tw18141258880019740379 : Nat := 0
noncomputable def Mine.hd2.tw11237372735114035931 : Nat := 0
noncomputable def Mine.hd2.tw175109583173815259 : Nat := 0
noncomputable def Mine.hd2.tw3639612239117024219 : Nat := 0
noncomputable def Mine.hd2.tw15208113223592336379 : Nat := 0
noncomputable def Mine.hd2.tw17889488521886093340 : Nat := 0
noncomputable def Mine.hd2.tw15989832115310774332 : Nat := 0
noncomputable def Mine.hd2.tw9303152165652212828 : Nat := 0
noncomputable def Mine.hd2.tw1196108307587243228 : Nat := 0
noncomputable def Mine.hd2.tw15352490148716938460 : Nat := 0
noncomputable def Mine.hd2.tw10272772584803894524 : Nat := 0
noncomputable def Mine.hd2.tw6671275844181521660 : Nat := 0
noncomputable def Mine.hd2.tw9745169078473251068 : Nat := 0
noncomputable def Mine.hd2.tw5693816991731773788 : Nat := 0
noncomputable def Mine.hd2.tw4563063862021744988 : Nat := 0
noncomputable def Mine.hd2.tw10599195360925122940 : Nat := 0
noncomputable def Mine.hd2.tw3199234756029852028 : Nat := 0
noncomputable def Mine.hd2.tw10703380130156237404 : Nat := 0
noncomputable def Mine.hd2.tw13808098181718039452 : Nat := 0
noncomputable def Mine.hd2.tw7914577561064067004 : Nat := 0
noncomputable def Mine.hd2.tw8435538589820232700 : Nat := 0
noncomputable def Mine.hd2.tw2780089739463094493 : Nat := 0
noncomputable def Mine.hd2.tw13366119217861580157 : Nat := 0
noncomputable def Mine.hd2.tw9891940239095931389 : Nat := 0
noncomputable def Mine.hd2.tw15210545484547487261 : Nat := 0
noncomputable def Mine.hd2.tw11993121850234153533 : Nat := 0
noncomputable def Mine.hd2.tw4254335569860116125 : Nat := 0
noncomputable def Mine.hd2.tw14524284236988537565 : Nat := 0
noncomputable def Mine.hd2.tw2129821099330906877 : Nat := 0
noncomputable def Mine.hd2.tw3202660704905915197 : Nat := 0
noncomputable def Mine.hd2.tw6541981660880656221 : Nat := 0
noncomputable def Mine.hd2.tw3726972912220129213 : Nat := 0
noncomputable def Mine.hd2.tw14194125027541112797 : Nat := 0
noncomputable def Mine.hd2.tw10241007629101191326 : Nat := 0
noncomputable def Mine.hd2.tw11387425415538479326 : Nat := 0
noncomputable def Mine.hd2.tw10088504024309026110 : Nat := 0
noncomputable def Mine.hd2.tw1787761290930888318 : Nat := 0
noncomputable def Mine.hd2.tw5018383507687693982 : Nat := 0
noncomputable def Mine.hd2.tw7984481551674939038 : Nat := 0
noncomputable def Mine.hd2.tw2998908863845618366 : Nat := 0
noncomputable def Mine.hd2.tw14840311160539740862 : Nat := 0
noncomputable def Mine.hd2.tw9931816716460518110 : Nat := 0
noncomputable def Mine.hd2.tw5626584828201687806 : Nat := 0
noncomputable def Mine.hd2.tw16078604856039034750 : Nat := 0
noncomputable def Mine.hd2.tw8436607001355094974 : Nat := 0
noncomputable def Mine.hd2.tw1698310995043944543 : Nat := 0
noncomputable def Mine.hd2.tw5765930190879127807 : Nat := 0
noncomputable def Mine.hd2.tw12225221494049422591 : Nat := 0
noncomputable def Mine.hd2.tw5236335410611732991 : Nat := 0
noncomputable def Mine.hd2.tw6070952261226161663 : Nat := 0
noncomputable def Mine.hd2.tw13245907384282631839 : Nat := 0
noncomputable def Mine.hd2.tw10905018937949311775 : Nat := 0
noncomputable def Mine.hd2.tw7357430904608827199 : Nat := 0
noncomputable def Mine.hd2.tw14747932260711156607 : Nat := 0
theorem Mine.hd2 : PySem.Challenge.rw_rh0087_01.Holds := by
  w_on; o_law; k_head; (case hw => w_witness2)
  refine Mine.theWalk (fun P => ?_) rfl rfl rfl rfl rfl rfl
  refine ⟨by kernel_rfl, by kernel_rfl, by kernel_rfl, by kernel_rfl, by kernel_rfl, by kernel_rfl, by kernel_rfl, by kernel_rfl, ⟨Mine.zF4 (by kernel_rfl) (by kernel_rfl), Mine.zF4 (by kernel_rfl) (by kernel_rfl), Mine.zF4 (by kernel_rfl) (by kernel_rfl), Mine.zF4 (by kernel_rfl) (by kernel_rfl), Mine.zF4 (by kernel_rfl) (by kernel_rfl), Mine.zF4 (by kernel_rfl) (by kernel_rfl), Mine.zF4 (by kernel_rfl) (by kernel_rfl), Mine.zF4 (by kernel_rfl) (by kernel_rfl), Mine.zF4 (by kernel_rfl) (by kernel_rfl), Mine.zF4 (by kernel_rfl) (by kernel_rfl), Mine.zF4 (by kernel_rfl) (by kernel_rfl), Mine.zF4 (by kernel_rfl) (by kernel_rfl), Mine.zF4 (by kernel_rfl) (by kernel_rfl), Mine.zF4 (by kernel_rfl) (by kernel_rfl), Mine.zF4 (by kernel_rfl) (by kernel_rfl), Mine.zF4 (by kernel_rfl) (by kernel_rfl), Mine.zF4 (by kernel_rfl) (by kernel_rfl), Mine.zF4 (by kernel_rfl) (by kernel_rfl), Mine.zF4 (by kernel_rfl) (by kernel_rfl), Mine.zF4 (by kernel_rfl) (by kernel_rfl), Mine.zF4 (by kernel_rfl) (by kernel_rfl), Mine.zF4 (by kernel_rfl) (by kernel_rfl), Mine.zF4 (by kernel_rfl) (by kernel_rfl), Mine.zF4 (by kernel_rfl) (by kernel_rfl), Mine.zF4 (by kernel_rfl) (by kernel_rfl), Mine.zF4 (by kernel_rfl) (by kernel_rfl), Mine.zF4 (by kernel_rfl) (by kernel_rfl), Mine.zF4 (by kernel_rfl) (by kernel_rfl), Mine.zF4 (by kernel_rfl) (by kernel_rfl), Mine.zF4 (by kernel_rfl) (by kernel_rfl), Mine.zF4 (by kernel_rfl) (by kernel_rfl), Mine.zF4 (by kernel_rfl) (by kernel_rfl), Mine.zF4 (by kernel_rfl) (by kernel_rfl), Mine.zF4 (by kernel_rfl) (by kernel_rfl), Mine.zF4 (by kernel_rfl) (by kernel_rfl), Mine.zF4 (by kernel_rfl) (by kernel_rfl), Mine.zF4 (by kernel_rfl) (by kernel_rfl), Mine.zF4 (by kernel_rfl) (by kernel_rfl), Mine.zF4 (by kernel_rfl) (by kernel_rfl), Mine.zF4 (by kernel_rfl) (by kernel_rfl)⟩, Mine.by_of (by kernel_rfl) (by kernel_rfl) (by kernel_rfl), by kernel_rfl⟩
end
theorem PySem.Challenge.cw_rh0087_01_holds : PySem.Challenge.rw_rh0087_01.Holds := by
  exact Mine.hd2
