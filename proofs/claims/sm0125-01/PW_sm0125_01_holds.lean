import PyProof.Rows.All
import Wide.All
import OpenK.AllK
import Wide.FinOn
import PySem.Challenge.RW_sm0125_01
open PySem PySem.Calls PySem.W PyProof.Rows
set_option Elab.async false
set_option linter.unusedVariables false
set_option linter.unusedSimpArgs false
set_option linter.deprecated false
set_option bootstrap.genMatcherCode false
set_option compiler.extract_closed false
namespace Mine
/-- an abstract value -/
inductive AV where
  | none | bool (b : Bool) | int (i : Int) | ref (a : Addr) | raw (v : Value) | glob (n : Str)

/-- a def of the top -/
structure Df where
  name : Str
  params : Arguments
  body : List Stmt
  scope : Scope

noncomputable def defIn : List Stmt → Str → Option Df
  | .FunctionDef n a b _ _ _ sc _ _ _ :: r, x => if n = x then some ⟨n, a, b, sc⟩ else defIn r x
  | _ :: r, x => defIn r x
  | [], _ => none
noncomputable def defOf (x : Str) : Option Df := defIn PySem.Challenge.pw_sm0125_01.main.body x

/-- the top's ints -/
noncomputable def consts : List (Str × Int) := [("FREE", 229), ("ENTRY_SIZE", 32), ("NAME_SIZE", 11), ("MAP_AT", 16), ("MOST_RECORDS", 128), ("EXTENTS_LOW", 32),
  ("EX_AT", 12), ("S2_AT", 14), ("RC_AT", 15), ("CR_AT", 32), ("FCB_SIZE", 36), ("UNCHANGED", 128), ("ANY", 63), ("READ_ONLY_AT", 8),
  ("DONE", 0), ("NOT_FOUND", 255), ("NO_DATA", 1), ("NO_ROOM", 2), ("NOT_CLOSED", 3), ("NO_EXTENT", 4), ("NO_ENTRY", 5), ("TOO_FAR", 6), ("GREATEST_EXTENT", 2048)]
noncomputable def builtinsUsed : List (Str × Value) := [("len", .builtin "len"), ("min", .builtin "min"), ("max", .builtin "max"), ("abs", .builtin "abs"), ("int", .type "int"), ("range", .type "range"),
  ("enumerate", .type "enumerate"), ("zip", .type "zip"), ("list", .type "list"), ("sorted", .builtin "sorted"), ("any", .builtin "any"), ("all", .builtin "all")]

noncomputable def attrNames : List Str := ([("blocks" : String), "block", "record", "entries", "is_read_only", "given", "data", "user", "raw", "extent", "spare", "count", "map"]).map Str.ofString
/-- the __init__ of an own class of the top -/
noncomputable def initIn : List Stmt → Str → Option Df
  | .ClassDef n _ _ b _ _ _ _ _ _ _ :: r, x => if n = x then defIn b "__init__" else initIn r x
  | _ :: r, x => initIn r x
  | [], _ => none
noncomputable def initOf (x : Str) : Option Df := initIn PySem.Challenge.pw_sm0125_01.main.body x
noncomputable def InitOk (base : Heap) (K : Frag) (C : Addr) (qual : Str) (d : Df) : Prop :=
  ∃ (fI : Addr) (o : Obj) (pm code doc ct : Value), findIn K (.ref C) "__init__" = some (some (.ref fI)) ∧ isFn K (.ref fI) = true ∧ base.get? fI = some o ∧
    o.data = .func (fnOf "__init__" qual d.params d.body d.scope .none .none doc pm none code ct) ∧ base.CodeRec code qual

set_option genInjectivity false in
set_option genSizeOfSpec false in
structure Cx where
  prog : Program
  w : World
  mg : Str → Option Value
  mb : Str → Option Value
  base : Heap
  os : OsState
  K : Frag
  cD : Addr
  cE : Addr
  g : base.Ns mainGlobals mg
  b : base.Ns builtinsNs mb
  nolimit : base.NoLimit
  fn : ∀ n d, defOf n = some d → ∃ a o pm code doc, mg n = some (.ref a) ∧ base.get? a = some o ∧ o.data = .func (docDef n d.params d.body d.scope pm code doc) ∧ base.CodeRec code n
  const : ∀ n i, consts.lookup n = some i → ∃ t, mg n = some (.int i t)
  bi : ∀ n v, builtinsUsed.lookup n = some v → mg n = none ∧ mb n = some v
  kin : K.In base
  nD : mg "Disk" = some (.ref cD)
  nE : mg "Entry" = some (.ref cE)
  cls : ∀ C, C = cD ∨ C = cE → makesIn K C = true ∧ keepIn K (.ref C) = true ∧ hasDictIn K C = true ∧ plainOver K C = true ∧ findIn K (.ref C) "__setattr__" = some (some (.builtin "object.__setattr__"))
  att : ∀ C, C = cD ∨ C = cE → ∀ x, attrNames.contains x = true → plainGet K C x = true ∧ findIn K (.ref C) x = some none ∧ takerIn K C x = some none
  initD : ∀ d, initOf "Disk" = some d → InitOk base K cD "Disk.__init__" d
  initE : ∀ d, initOf "Entry" = some d → InitOk base K cE "Entry.__init__" d

noncomputable def AV.rel (c : Cx) : AV → Value → Prop
  | .none, v => v = .none
  | .bool b, v => v = .bool b
  | .int i, v => ∃ t, v = .int i t
  | .ref a, v => v = .ref a
  | .raw x, v => v = x
  | .glob n, v => c.mg n = some v

noncomputable def VsRel (c : Cx) : List AV → List Value → Prop
  | [], [] => True
  | a :: as, v :: vs => a.rel c v ∧ VsRel c as vs
  | _, _ => False

/-- an abstract object -/
inductive AO where
  | list (vs : List AV)
  | tup (vs : List AV)
  | inst (C : Addr) (dx : Addr)
  | attrs (fs : List (Str × AV))
  | dict (ks : List Int)

noncomputable def EsRel (c : Cx) : List (Str × AV) → List DictEntry → Prop
  | [], [] => True
  | a :: as, e :: es => (∃ t, e.key = .str a.1 t) ∧ a.2.rel c e.val ∧ EsRel c as es
  | _, _ => False
noncomputable def dictEs (ks : List Int) : List (Int × Value) := ks.map fun k => (k, .bool true)

noncomputable def AO.rel (c : Cx) : AO → Obj → Prop
  | .list vs, o => ∃ items n, o = { cls := .type "list", data := .seq items n } ∧ VsRel c vs items.toList
  | .tup vs, o => ∃ items n, o = { cls := .type "tuple", data := .seq items n } ∧ VsRel c vs items.toList
  | .inst C dx, o => o = instObj C dx
  | .attrs fs, o => ∃ es n, o = dictOf es n ∧ EsRel c fs es
  | .dict ks, o => o.IsDictOf (intKind c.prog c.w) (dictEs ks)

noncomputable abbrev Hp := List (Addr × AO)
noncomputable abbrev Lm := Str → Option AV
noncomputable abbrev Fx := Addr → Option Obj

set_option genInjectivity false in
set_option genSizeOfSpec false in
structure Rs (c : Cx) (F : Fx) (σ : Hp) (s : Shared) : Prop where
  base : ∀ b o, c.base.get? b = some o → F b = some o
  fix : ∀ b o, F b = some o → s.heap.get? b = some o
  cell : ∀ p ∈ σ, F p.1 = none ∧ ∃ ob, s.heap.get? p.1 = some ob ∧ p.2.rel c ob
  nd : (σ.map (·.1)).Nodup
  os : s.os = c.os
  gens : s.gens = #[]

set_option genInjectivity false in
set_option genSizeOfSpec false in
structure Fm (c : Cx) (F : Fx) (σ : Hp) (env : Env) (ow : List (Str × Addr)) (m : Lm) (s : Shared) : Prop where
  ns : ∃ mm, s.heap.Ns env.locals mm ∧ ∀ x v, m x = some v → env.kindOf x = some .local → ∃ vv, mm x = some vv ∧ v.rel c vv
  cl : ∀ x v, m x = some v → env.kindOf x = some .local ∨ ∃ a vv o, (env.kindOf x = some .cell ∨ env.kindOf x = some .free) ∧ env.cells.lookup x = some a ∧ s.heap.get? a = some o ∧ o.data = .cell (some vv) ∧ v.rel c vv ∧ (F a = some o ∨ ow.lookup x = some a)
  free : F env.locals = none
  off : env.locals ∉ σ.map (·.1)
  above : c.base.objs.size ≤ env.locals
  owd : ∀ x a, ow.lookup x = some a → F a = none ∧ a ∉ σ.map (·.1) ∧ a ≠ env.locals ∧ ∃ o v, s.heap.get? a = some o ∧ o.data = .cell v
  ownd : ∀ x y a, ow.lookup x = some a → ow.lookup y = some a → x = y

set_option genInjectivity false in
set_option genSizeOfSpec false in
structure St (c : Cx) (F : Fx) (σ : Hp) (env : Env) (ow : List (Str × Addr)) (m : Lm) (s : Shared) : Prop where
  r : Rs c F σ s
  f : Fm c F σ env ow m s

section
variable {c : Cx} {F : Fx} {σ σ' : Hp} {env : Env} {ow : List (Str × Addr)} {m m' : Lm} {s : Shared} {h' : Heap} {tk : Nat}

theorem VsRel.length {as : List AV} {vs : List Value} (h : VsRel c as vs) : as.length = vs.length := by
  induction as generalizing vs with
  | nil => cases vs with
    | nil => rfl
    | cons v vs => exact h.elim
  | cons a as ih => cases vs with
    | nil => exact h.elim
    | cons v vs => exact congrArg (· + 1) (ih h.2)
theorem VsRel.get {as : List AV} {vs : List Value} (h : VsRel c as vs) (i : Nat) {a : AV} (e : as[i]? = some a) : ∃ v, vs[i]? = some v ∧ a.rel c v := by
  induction as generalizing vs i with
  | nil => cases e
  | cons b as ih => cases vs with
    | nil => exact h.elim
    | cons v vs => cases i with
      | zero => cases e; exact ⟨v, rfl, h.1⟩
      | succ i => exact ih h.2 i e
theorem VsRel.append {as bs : List AV} {vs ws : List Value} (h : VsRel c as vs) (h' : VsRel c bs ws) : VsRel c (as ++ bs) (vs ++ ws) := by
  induction as generalizing vs with
  | nil => cases vs with
    | nil => exact h'
    | cons v vs => exact h.elim
  | cons a as ih => cases vs with
    | nil => exact h.elim
    | cons v vs => exact ⟨h.1, ih h.2⟩
theorem VsRel.drop {as : List AV} {vs : List Value} (n : Nat) (h : VsRel c as vs) : VsRel c (as.drop n) (vs.drop n) := by
  induction as generalizing vs n with
  | nil => cases vs with
    | nil => rw [List.drop_nil, List.drop_nil]; exact trivial
    | cons v vs => exact h.elim
  | cons a as ih => cases vs with
    | nil => exact h.elim
    | cons v vs => cases n with
      | zero => exact h
      | succ n => exact ih n h.2
theorem VsRel.take {as : List AV} {vs : List Value} (n : Nat) (h : VsRel c as vs) : VsRel c (as.take n) (vs.take n) := by
  induction as generalizing vs n with
  | nil => cases vs with
    | nil => rw [List.take_nil, List.take_nil]; exact trivial
    | cons v vs => exact h.elim
  | cons a as ih => cases vs with
    | nil => exact h.elim
    | cons v vs => cases n with
      | zero => exact trivial
      | succ n => exact ⟨h.1, ih n h.2⟩
theorem VsRel.set {as : List AV} {vs : List Value} (n : Nat) {a : AV} {v : Value} (h : VsRel c as vs) (ha : a.rel c v) : VsRel c (as.set n a) (vs.set n v) := by
  induction as generalizing vs n with
  | nil =>
    cases vs with
    | nil => exact trivial
    | cons w vs => exact h.elim
  | cons b as ih =>
    cases vs with
    | nil => exact h.elim
    | cons w vs =>
      cases n with
      | zero => exact ⟨ha, h.2⟩
      | succ n => exact ⟨h.1, ih n h.2⟩
theorem VsRel.one {a : AV} {vs : List Value} (h : VsRel c [a] vs) : ∃ v, vs = [v] ∧ a.rel c v := by
  cases vs with
  | nil => exact h.elim
  | cons v vs => cases vs with
    | nil => exact ⟨v, rfl, h.1⟩
    | cons w ws => exact h.2.elim
theorem VsRel.two {a b : AV} {vs : List Value} (h : VsRel c [a, b] vs) : ∃ v w, vs = [v, w] ∧ a.rel c v ∧ b.rel c w := by
  cases vs with
  | nil => exact h.elim
  | cons v vs =>
    obtain ⟨w, rfl, e⟩ := VsRel.one h.2
    exact ⟨v, w, rfl, h.1, e⟩
theorem VsRel.snoc {as : List AV} {vs : List Value} {a : AV} {v : Value} (h : VsRel c as vs) (ha : a.rel c v) : VsRel c (as ++ [a]) (vs ++ [v]) :=
  h.append ⟨ha, trivial⟩

theorem AO.not_freed {ao : AO} {o : Obj} (h : ao.rel c o) : o.isFreed = false := by
  cases ao with
  | list vs => obtain ⟨_, _, rfl, _⟩ := h; rfl
  | tup vs => obtain ⟨_, _, rfl, _⟩ := h; rfl
  | inst C dx => cases h; rfl
  | attrs fs => obtain ⟨_, _, rfl, _⟩ := h; rfl
  | dict ks =>
    obtain ⟨es, ep, _, e, _⟩ := h
    obtain ⟨o1, o2, o3, o4⟩ := o
    have e : o3 = .dict es ep := e
    subst e
    rfl

theorem Rs.keyFree (h : Rs c F σ s) {a : Addr} (ha : a ∈ σ.map (·.1)) : F a = none := by
  obtain ⟨p, hp, rfl⟩ := List.mem_map.mp ha
  exact (h.cell p hp).1
theorem Rs.keyLive (h : Rs c F σ s) {a : Addr} (ha : a ∈ σ.map (·.1)) : ∃ ob, s.heap.get? a = some ob := by
  obtain ⟨p, hp, rfl⟩ := List.mem_map.mp ha
  obtain ⟨ob, e, _⟩ := (h.cell p hp).2
  exact ⟨ob, e⟩

/-- everything is kept -/
theorem St.keepsN {mm : Str → Option Value} (h : St c F σ env ow m s)
    (hmm : s.heap.Ns env.locals mm ∧ ∀ x v, m x = some v → env.kindOf x = some .local → ∃ vv, mm x = some vv ∧ v.rel c vv)
    (hn : h'.Ns env.locals mm) (hk : ∀ b o, b ≠ env.locals → s.heap.get? b = some o → h'.get? b = some o) :
    St c F σ env ow m { s with heap := h', toks := tk } := by
  have fr : ∀ b o, F b = some o → b ≠ env.locals := fun b o e q => by rw [q, h.f.free] at e; cases e
  refine ⟨⟨h.r.base, fun b o e => hk b o (fr b o e) (h.r.fix b o e), fun p hp => ?_, h.r.nd, h.r.os, h.r.gens⟩, ⟨⟨mm, hn, hmm.2⟩, fun x v hx => ?_, h.f.free, h.f.off, h.f.above, fun x a hp => ?_, h.f.ownd⟩⟩
  · obtain ⟨h1, ob, h2, h3⟩ := h.r.cell p hp
    exact ⟨h1, ob, hk _ _ (fun q => h.f.off (q ▸ List.mem_map_of_mem hp)) h2, h3⟩
  · rcases h.f.cl x v hx with q | ⟨a, vv, o, q1, q2, q3, q4, q5, q6⟩
    · exact .inl q
    · refine .inr ⟨a, vv, o, q1, q2, hk _ _ ?_ q3, q4, q5, q6⟩
      rcases q6 with q6 | q6
      · exact fr _ _ q6
      · exact (h.f.owd _ _ q6).2.2.1
  · obtain ⟨a1, a2, a3, o, v, a4, a5⟩ := h.f.owd x a hp
    exact ⟨a1, a2, a3, o, v, hk _ _ a3 a4, a5⟩
theorem St.keeps (h : St c F σ env ow m s) (hk : ∀ b o, s.heap.get? b = some o → h'.get? b = some o) : St c F σ env ow m { s with heap := h', toks := tk } := by
  obtain ⟨mm, h1, h2⟩ := h.f.ns
  exact h.keepsN ⟨h1, h2⟩ (h1.keeps hk) fun b o _ e => hk b o e
theorem St.tok (h : St c F σ env ow m s) : St c F σ env ow m { s with toks := tk } := h.keeps fun _ _ e => e

/-- a new object -/
theorem St.newN {a : Addr} {ob : Obj} {ao : AO} (h : St c F σ env ow m s) (h1 : St c F σ env ow m { s with heap := h', toks := tk })
    (hf : s.heap.get? a = none) (ha : h'.get? a = some ob) (hr : ao.rel c ob) : St c F ((a, ao) :: σ) env ow m { s with heap := h', toks := tk } := by
  have hFa : F a = none := by
    cases e : F a with
    | none => rfl
    | some o => rw [h.r.fix a o e] at hf; cases hf
  have haσ : a ∉ σ.map (·.1) := fun q => by
    obtain ⟨ob, e⟩ := h.r.keyLive q
    rw [hf] at e; cases e
  have haL : a ≠ env.locals := fun q => by
    obtain ⟨mm, ⟨o, _, _, e, _⟩, _⟩ := h.f.ns
    rw [q, e] at hf; cases hf
  refine ⟨⟨h1.r.base, h1.r.fix, fun p hp => ?_, ?_, h1.r.os, h1.r.gens⟩, ⟨h1.f.ns, h1.f.cl, h1.f.free, ?_, h1.f.above, fun x b hp => ?_, h1.f.ownd⟩⟩
  · rcases List.mem_cons.mp hp with rfl | hp
    · exact ⟨hFa, ob, ha, hr⟩
    · exact h1.r.cell p hp
  · rw [List.map_cons]; exact List.nodup_cons.mpr ⟨haσ, h1.r.nd⟩
  · rw [List.map_cons]
    intro q
    rcases List.mem_cons.mp q with q | q
    · exact haL q.symm
    · exact h.f.off q
  · obtain ⟨a1, a2, a3, o, v, a4, a5⟩ := h1.f.owd x b hp
    refine ⟨a1, fun q => ?_, a3, o, v, a4, a5⟩
    rw [List.map_cons] at q
    rcases List.mem_cons.mp q with q | q
    · obtain ⟨_, _, _, o', v', e', _⟩ := h.f.owd x b hp
      have q' : b = a := q
      rw [q', hf] at e'; cases e'
    · exact a2 q
theorem St.new {a : Addr} {ob : Obj} {ao : AO} (h : St c F σ env ow m s) (hk : ∀ b o, s.heap.get? b = some o → h'.get? b = some o)
    (hf : s.heap.get? a = none) (ha : h'.get? a = some ob) (hr : ao.rel c ob) : St c F ((a, ao) :: σ) env ow m { s with heap := h', toks := tk } := h.newN (h.keeps hk) hf ha hr
theorem St.push {ob : Obj} {ao : AO} (h : St c F σ env ow m s) (hr : ao.rel c ob) : St c F ((s.heap.objs.size, ao) :: σ) env ow m { s with heap := s.heap.push ob, toks := tk } :=
  h.new (fun _ _ e => Heap.get?_push_of_some _ e) (Heap.get?_none_of_le (Nat.le_refl _)) (Heap.get?_push_size _ (AO.not_freed hr)) hr

/-- one cell of the heap changes -/
inductive Upd : Hp → Addr → AO → AO → Hp → Prop
  | head {a o o' t} : Upd ((a, o) :: t) a o o' ((a, o') :: t)
  | tail {p t a o o' t'} : Upd t a o o' t' → Upd (p :: t) a o o' (p :: t')
theorem Upd.keys {a : Addr} {o o' : AO} (h : Upd σ a o o' σ') : σ'.map (·.1) = σ.map (·.1) := by
  induction h with
  | head => rfl
  | tail _ ih => simp [ih]
theorem Upd.mem {a : Addr} {o o' : AO} (h : Upd σ a o o' σ') : (a, o) ∈ σ := by
  induction h with
  | head => exact .head _
  | tail _ ih => exact .tail _ ih
theorem Upd.mem' {a : Addr} {o o' : AO} (h : Upd σ a o o' σ') : (a, o') ∈ σ' := by
  induction h with
  | head => exact .head _
  | tail _ ih => exact .tail _ ih
theorem Upd.back {a : Addr} {o o' : AO} (h : Upd σ a o o' σ') : ∀ p ∈ σ', p ∈ σ ∨ p = (a, o') := by
  induction h with
  | head => intro p hp; rcases List.mem_cons.mp hp with rfl | hp; exact .inr rfl; exact .inl (.tail _ hp)
  | tail _ ih =>
    intro p hp
    rcases List.mem_cons.mp hp with rfl | hp
    · exact .inl (.head _)
    · exact (ih p hp).imp (.tail _) id
theorem Upd.forth {a : Addr} {o o' : AO} (h : Upd σ a o o' σ') : ∀ p ∈ σ, p.1 ≠ a → p ∈ σ' := by
  induction h with
  | head => intro p hp hn; rcases List.mem_cons.mp hp with rfl | hp; exact absurd rfl hn; exact .tail _ hp
  | tail _ ih =>
    intro p hp hn
    rcases List.mem_cons.mp hp with rfl | hp
    · exact .head _
    · exact .tail _ (ih p hp hn)
theorem St.updN {a : Addr} {ob : Obj} {o o' : AO} {mm : Str → Option Value} (h : St c F σ env ow m s) (hu : Upd σ a o o' σ')
    (hmm : ∀ x v, m x = some v → env.kindOf x = some .local → ∃ vv, mm x = some vv ∧ v.rel c vv) (hn : h'.Ns env.locals mm)
    (hk : ∀ b o, b ≠ a → b ≠ env.locals → s.heap.get? b = some o → h'.get? b = some o)
    (ha : h'.get? a = some ob) (hr : o'.rel c ob) : St c F σ' env ow m { s with heap := h', toks := tk } := by
  have hm : a ∈ σ.map (·.1) := List.mem_map_of_mem (f := (·.1)) hu.mem
  have hFa := h.r.keyFree hm
  have haL : env.locals ≠ a := fun q => h.f.off (q ▸ hm)
  have fr : ∀ b o, F b = some o → b ≠ a := fun b o e q => by rw [q, hFa] at e; cases e
  have frL : ∀ b o, F b = some o → b ≠ env.locals := fun b o e q => by rw [q, h.f.free] at e; cases e
  refine ⟨⟨h.r.base, fun b o e => hk b o (fr b o e) (frL b o e) (h.r.fix b o e), fun p hp => ?_, hu.keys ▸ h.r.nd, h.r.os, h.r.gens⟩, ⟨?_, fun x v hx => ?_, h.f.free, hu.keys ▸ h.f.off, h.f.above, fun x b hp => ?_, h.f.ownd⟩⟩
  · by_cases q : p.1 = a
    · rcases hu.back p hp with hp' | rfl
      · have : p.1 ∈ σ'.map (·.1) := List.mem_map_of_mem hp
        have nd : (σ'.map (·.1)).Nodup := hu.keys ▸ h.r.nd
        have e : p = (a, o') := by
          clear hp' this
          have m' := hu.mem'
          clear hu h hk ha hr
          induction σ' with
          | nil => cases hp
          | cons y t ih =>
            rw [List.map_cons] at nd
            rcases List.mem_cons.mp hp with rfl | hp <;> rcases List.mem_cons.mp m' with e | m'
            · exact e.symm
            · exact absurd (q ▸ List.mem_map_of_mem (f := (·.1)) m') (List.nodup_cons.mp nd).1
            · exact absurd (e ▸ q ▸ List.mem_map_of_mem (f := (·.1)) hp) (List.nodup_cons.mp nd).1
            · exact ih hp (List.nodup_cons.mp nd).2 m'
        subst e
        exact ⟨hFa, ob, ha, hr⟩
      · exact ⟨hFa, ob, ha, hr⟩
    · rcases hu.back p hp with hp' | rfl
      · obtain ⟨h1, ob', h2, h3⟩ := h.r.cell p hp'
        exact ⟨h1, ob', hk _ _ q (fun z => h.f.off (z ▸ List.mem_map_of_mem hp')) h2, h3⟩
      · exact absurd rfl q
  · exact ⟨mm, hn, hmm⟩
  · rcases h.f.cl x v hx with q | ⟨b, vv, o, q1, q2, q3, q4, q5, q6⟩
    · exact .inl q
    · refine .inr ⟨b, vv, o, q1, q2, hk _ _ ?_ ?_ q3, q4, q5, q6⟩
      · rcases q6 with q6 | q6
        · exact fr _ _ q6
        · exact fun q => (h.f.owd _ _ q6).2.1 (q ▸ hm)
      · rcases q6 with q6 | q6
        · exact frL _ _ q6
        · exact (h.f.owd _ _ q6).2.2.1
  · obtain ⟨a1, a2, a3, o, v, a4, a5⟩ := h.f.owd x b hp
    exact ⟨a1, hu.keys ▸ a2, a3, o, v, hk _ _ (fun q => a2 (q ▸ hm)) a3 a4, a5⟩

theorem St.upd {a : Addr} {ob : Obj} {o o' : AO} (h : St c F σ env ow m s) (hu : Upd σ a o o' σ') (hk : ∀ b o, b ≠ a → s.heap.get? b = some o → h'.get? b = some o)
    (ha : h'.get? a = some ob) (hr : o'.rel c ob) : St c F σ' env ow m { s with heap := h', toks := tk } := by
  obtain ⟨mm, h1, h2⟩ := h.f.ns
  have haL : env.locals ≠ a := fun q => h.f.off (q ▸ List.mem_map_of_mem (f := (·.1)) hu.mem)
  exact h.updN hu h2 (h1.extBut (b := a) (fun b o q e => hk b o q e) haL) (fun b o q _ e => hk b o q e) ha hr

/-- forgetting -/
theorem St.sub (h : St c F σ env ow m s) (hs : σ'.Sublist σ) : St c F σ' env ow m s := by
  have hm : ∀ p ∈ σ', p ∈ σ := fun p hp => hs.subset hp
  have hk : ∀ a, a ∈ σ'.map (·.1) → a ∈ σ.map (·.1) := fun a ha => (hs.map (·.1)).subset ha
  exact ⟨⟨h.r.base, h.r.fix, fun p hp => h.r.cell p (hm p hp), (hs.map (·.1)).nodup h.r.nd, h.r.os, h.r.gens⟩,
    ⟨h.f.ns, h.f.cl, h.f.free, fun q => h.f.off (hk _ q), h.f.above, fun x a hp => ⟨(h.f.owd x a hp).1, fun q => (h.f.owd x a hp).2.1 (hk _ q), (h.f.owd x a hp).2.2⟩, h.f.ownd⟩⟩
theorem St.perm (h : St c F σ env ow m s) (hs : σ'.Perm σ) : St c F σ' env ow m s := by
  have hm : ∀ p ∈ σ', p ∈ σ := fun p hp => hs.subset hp
  have hk : ∀ a, a ∈ σ'.map (·.1) → a ∈ σ.map (·.1) := fun a ha => (hs.map (·.1)).subset ha
  exact ⟨⟨h.r.base, h.r.fix, fun p hp => h.r.cell p (hm p hp), (hs.map (·.1)).nodup_iff.mpr h.r.nd, h.r.os, h.r.gens⟩,
    ⟨h.f.ns, h.f.cl, h.f.free, fun q => h.f.off (hk _ q), h.f.above, fun x a hp => ⟨(h.f.owd x a hp).1, fun q => (h.f.owd x a hp).2.1 (hk _ q), (h.f.owd x a hp).2.2⟩, h.f.ownd⟩⟩
theorem St.less (h : St c F σ env ow m s) (hs : ∀ x v, m' x = some v → m x = some v) : St c F σ env ow m' s :=
  ⟨h.r, ⟨h.f.ns.imp fun mm h => ⟨h.1, fun x v hx => h.2 x v (hs x v hx)⟩, fun x v hx => h.f.cl x v (hs x v hx), h.f.free, h.f.off, h.f.above, h.f.owd, h.f.ownd⟩⟩

/-- the frame and the ledger of the kit's rules -/
noncomputable def nwAll (c : Cx) (L : Addr) (h : Heap) : List (Addr × Obj) :=
  (List.range h.objs.size).filterMap fun b => if b = L ∨ (c.base.get? b).isSome then none else (h.get? b).map fun o => (b, o)
theorem mem_nwAll {L b : Addr} {h : Heap} {o : Obj} (e : h.get? b = some o) (hL : b ≠ L) (hb : c.base.get? b = none) : (b, o) ∈ nwAll c L h := by
  refine List.mem_filterMap.mpr ⟨b, List.mem_range.mpr (Heap.lt_size e), ?_⟩
  rw [if_neg (by simp [hL, hb]), e]; rfl
theorem news_nwAll {L : Addr} {h : Heap} : News c.base L h (nwAll c L h) := by
  intro p hp
  obtain ⟨b, _, e⟩ := List.mem_filterMap.mp hp
  split at e
  · cases e
  · rename_i q
    rw [not_or] at q
    cases g : h.get? b with
    | none => rw [g] at e; cases e
    | some o =>
      rw [g] at e
      cases e
      refine ⟨g, q.1, ?_⟩
      cases r : c.base.get? b with
      | none => rfl
      | some _ => rw [r] at q; exact absurd rfl q.2
theorem St.fr (h : St c F σ env ow m s) : ∃ mm, (∀ x v, m x = some v → env.kindOf x = some .local → ∃ vv, mm x = some vv ∧ v.rel c vv) ∧ Fr c.base env.locals s.heap mm ∧ News c.base env.locals s.heap (nwAll c env.locals s.heap) ∧
    ∀ h' tk, Fr c.base env.locals h' mm → News c.base env.locals h' (nwAll c env.locals s.heap) →
      (∀ b o, b ≠ env.locals → s.heap.get? b = some o → h'.get? b = some o) ∧ St c F σ env ow m { s with heap := h', toks := tk } := by
  obtain ⟨mm, h1, h2⟩ := h.f.ns
  refine ⟨mm, h2, ⟨h1, fun b o e => h.r.fix b o (h.r.base b o e), h.f.above⟩, news_nwAll, fun h' tk F' N' => ?_⟩
  have hk : ∀ b o, b ≠ env.locals → s.heap.get? b = some o → h'.get? b = some o := fun b o hL e => by
    cases hb : c.base.get? b with
    | none => exact (N' _ (mem_nwAll e hL hb)).1
    | some o' =>
      have := h.r.fix b o' (h.r.base b o' hb)
      rw [e] at this; cases this
      exact F'.keep b o hb
  exact ⟨hk, h.keepsN ⟨h1, h2⟩ F'.ns hk⟩
theorem nwAll_fresh {L D : Addr} {h h' : Heap} {ob : Obj} (N : News c.base L h' ((D, ob) :: nwAll c L h)) (hlt : ∀ p ∈ nwAll c L h, p.1 < D) : h.get? D = none := by
  cases e : h.get? D with
  | none => rfl
  | some o =>
    have q := N (D, ob) (.head _)
    exact absurd (hlt _ (mem_nwAll e q.2.1 q.2.2)) (Nat.lt_irrefl _)
end
inductive AF where | brk | cont | ret (v : AV)
noncomputable def AF.rel (c : Cx) : AF → Flow → Prop
  | .brk, f => f = .brk
  | .cont, f => f = .cont
  | .ret v, f => ∃ vv, f = .ret vv ∧ v.rel c vv

structure AOk (n : Nat) (A : Around) : Prop where
  hd : A.handled = none
  dep : A.depth + n ≤ 900
  un : A.units + 20 * n ≤ 9000

noncomputable def okName (x : Str) : Bool := !(x == ("__debug__" : Str)) && !(x == ("__classdict__" : Str))

structure EnvOk (sc : Scope) (env : Env) (ow : List (Str × Addr)) : Prop where
  kind : env.scope.kind = .function
  gl : ∀ x, sc.names.lookup x = some .globalImplicit → env.kindOf x = some .globalImplicit
  lo : ∀ x, sc.names.lookup x = some .local → env.kindOf x = some .local
  ce : ∀ x, sc.names.lookup x = some .cell → env.kindOf x = some .cell ∧ ∃ a, env.cells.lookup x = some a ∧ ow.lookup x = some a
  globals : env.globals = mainGlobals
  builtins : env.builtins = builtinsNs

structure EnvS (sc : Scope) (env : Env) (ow : List (Str × Addr)) : Prop extends EnvOk sc env ow where
  scope : env.scope = sc

/-- the posts, by name -/
noncomputable abbrev PE (c : Cx) (Q : AV → Hp → Prop) (F : Fx) (env : Env) (ow : List (Str × Addr)) (m : Lm) (v : Value) (s : Shared) : Prop := ∃ av σ', av.rel c v ∧ Q av σ' ∧ St c F σ' env ow m s
noncomputable abbrev PB (c : Cx) (Q : Bool → Hp → Prop) (F : Fx) (env : Env) (ow : List (Str × Addr)) (m : Lm) (b : Bool) (s : Shared) : Prop := ∃ σ', Q b σ' ∧ St c F σ' env ow m s
noncomputable abbrev PQ (c : Cx) (Q : Bool → Hp → Prop) (F : Fx) (env : Env) (ow : List (Str × Addr)) (m : Lm) (x : Value) (s : Shared) : Prop := ∃ b σ', x = .bool b ∧ Q b σ' ∧ St c F σ' env ow m s
noncomputable abbrev PS (c : Cx) (Qn : Hp → Lm → Prop) (Qr : AF → Hp → Lm → Prop) (F : Fx) (env : Env) (ow : List (Str × Addr)) (f : Flow) (s : Shared) : Prop := ∃ σ' m', ((f = .next ∧ Qn σ' m') ∨ ∃ af, AF.rel c af f ∧ Qr af σ' m') ∧ St c F σ' env ow m' s
noncomputable abbrev PC (c : Cx) (Q : AV → Hp → Prop) (F : Fx) (v : Value) (s : Shared) : Prop := ∃ av σ', av.rel c v ∧ Q av σ' ∧ Rs c F σ' s

theorem PE.go {c : Cx} {Q : AV → Hp → Prop} {F : Fx} {env : Env} {ow : List (Str × Addr)} {m : Lm} {v : Value} {s : Shared} {X : Prop} (k : ∀ av σ', av.rel c v → Q av σ' → St c F σ' env ow m s → X) (h : PE c Q F env ow m v s) : X := by
  obtain ⟨av, σ', h1, h2, h3⟩ := h
  exact k av σ' h1 h2 h3
theorem PC.go {c : Cx} {Q : AV → Hp → Prop} {F : Fx} {v : Value} {s : Shared} {X : Prop} (k : ∀ av σ', av.rel c v → Q av σ' → Rs c F σ' s → X) (h : PC c Q F v s) : X := by
  obtain ⟨av, σ', h1, h2, h3⟩ := h
  exact k av σ' h1 h2 h3
theorem PQ.go {c : Cx} {Q : Bool → Hp → Prop} {F : Fx} {env : Env} {ow : List (Str × Addr)} {m : Lm} {v : Value} {s : Shared} {X : Prop} (k : ∀ b σ', v = .bool b → Q b σ' → St c F σ' env ow m s → X) (h : PQ c Q F env ow m v s) : X := by
  obtain ⟨av, σ', h1, h2, h3⟩ := h
  exact k av σ' h1 h2 h3
theorem ex5 {α β : Type} {p q r : α → β → Prop} {X : Prop} (k : ∀ a b, p a b → q a b → r a b → X) (h : ∃ a b, p a b ∧ q a b ∧ r a b) : X := by
  obtain ⟨av, σ', h1, h2, h3⟩ := h
  exact k av σ' h1 h2 h3
theorem ex4 {α β : Type} {p q : α → β → Prop} {X : Prop} (k : ∀ a b, p a b → q a b → X) (h : ∃ a b, p a b ∧ q a b) : X := by
  obtain ⟨av, σ', h1, h2⟩ := h
  exact k av σ' h1 h2
theorem ex3 {α : Type} {p q : α → Prop} {X : Prop} (k : ∀ a, p a → q a → X) (h : ∃ a, p a ∧ q a) : X := by
  obtain ⟨a, h1, h2⟩ := h
  exact k a h1 h2

noncomputable def TE (c : Cx) (n : Nat) (sc : Scope) (σ : Hp) (m : Lm) (e : Expr) (Q : AV → Hp → Prop) : Prop :=
  ∀ A F env ow s, AOk n A → EnvOk sc env ow → St c F σ env ow m s →
    wpAny (model c.prog c.w) A (eval e env) (PE c Q F env ow m) (fun _ _ => False) s
noncomputable def TB (c : Cx) (n : Nat) (sc : Scope) (σ : Hp) (m : Lm) (e : Expr) (Q : Bool → Hp → Prop) : Prop :=
  ∀ A F env ow s, AOk n A → EnvOk sc env ow → St c F σ env ow m s →
    wpAny (model c.prog c.w) A (isTrue e env (eval e env)) (PB c Q F env ow m) (fun _ _ => False) s
noncomputable def TEs (c : Cx) (n : Nat) (sc : Scope) (m : Lm) : Hp → List Expr → (List AV → Hp → Prop) → Prop
  | σ, [], Q => Q [] σ
  | σ, e :: es, Q => TE c n sc σ m e fun v σ' => TEs c n sc m σ' es fun vs σ'' => Q (v :: vs) σ''
noncomputable def TX (c : Cx) (n : Nat) (sc : Scope) (σ : Hp) (m : Lm) (st : Stmt) (Qn : Hp → Lm → Prop) (Qr : AF → Hp → Lm → Prop) : Prop :=
  ∀ A F env ow s, AOk n A → EnvS sc env ow → St c F σ env ow m s →
    wpAny (model c.prog c.w) A (exec st env) (PS c Qn Qr F env ow) (fun _ _ => False) s
noncomputable def TS (c : Cx) (n : Nat) (sc : Scope) (σ : Hp) (m : Lm) (sts : List Stmt) (Qn : Hp → Lm → Prop) (Qr : AF → Hp → Lm → Prop) : Prop :=
  ∀ A F env ow s, AOk n A → EnvS sc env ow → St c F σ env ow m s →
    wpAny (model c.prog c.w) A (execs sts env) (PS c Qn Qr F env ow) (fun _ _ => False) s
noncomputable def Big (c : Cx) (F : Fx) : Prop := ∃ b o, F b = some o ∧ c.base.objs.size ≤ b + 1
/-- a call: no frame of the caller's in sight -/
noncomputable def TC (c : Cx) (n : Nat) (f : AV) (args : List AV) (σ : Hp) (Q : AV → Hp → Prop) : Prop :=
  ∀ A F s fv vs, AOk n A → Big c F → Rs c F σ s → f.rel c fv → VsRel c args vs →
    wpAny (model c.prog c.w) A (call fv vs []) (PC c Q F) (fun _ _ => False) s
noncomputable def TBin (c : Cx) (n : Nat) (σ : Hp) (op : Operator) (a b : AV) (Q : AV → Hp → Prop) : Prop :=
  ∀ A F env ow m s v w, AOk n A → St c F σ env ow m s → a.rel c v → b.rel c w →
    wpAny (model c.prog c.w) A (binaryOp op v w) (PE c Q F env ow m) (fun _ _ => False) s
noncomputable def TCmp (c : Cx) (n : Nat) (σ : Hp) (op : CmpOp) (a b : AV) (Q : Bool → Hp → Prop) : Prop :=
  ∀ A F env ow m s v w, AOk n A → St c F σ env ow m s → a.rel c v → b.rel c w →
    wpAny (model c.prog c.w) A (compareOp op v w) (PQ c Q F env ow m) (fun _ _ => False) s

section
variable {c : Cx}
theorem ex_int {i : Int} {t : Tok} {σ : Hp} {Q : AV → Hp → Prop} {X : Hp → Prop} (h : Q (.int i) σ) (hx : X σ) : ∃ av σ', AV.rel c av (.int i t) ∧ Q av σ' ∧ X σ' := ⟨.int i, σ, ⟨_, rfl⟩, h, hx⟩
theorem ex_bool {b : Bool} {σ : Hp} {Q : AV → Hp → Prop} {X : Hp → Prop} (h : Q (.bool b) σ) (hx : X σ) : ∃ av σ', AV.rel c av (.bool b) ∧ Q av σ' ∧ X σ' := ⟨.bool b, σ, rfl, h, hx⟩
theorem ex_none {σ : Hp} {Q : AV → Hp → Prop} {X : Hp → Prop} (h : Q .none σ) (hx : X σ) : ∃ av σ', AV.rel c av .none ∧ Q av σ' ∧ X σ' := ⟨.none, σ, rfl, h, hx⟩
theorem ex_ref {a : Addr} {σ : Hp} {Q : AV → Hp → Prop} {X : Hp → Prop} (h : Q (.ref a) σ) (hx : X σ) : ∃ av σ', AV.rel c av (.ref a) ∧ Q av σ' ∧ X σ' := ⟨.ref a, σ, rfl, h, hx⟩
theorem ex_raw {v : Value} {σ : Hp} {Q : AV → Hp → Prop} {X : Hp → Prop} (h : Q (.raw v) σ) (hx : X σ) : ∃ av σ', AV.rel c av v ∧ Q av σ' ∧ X σ' := ⟨.raw v, σ, rfl, h, hx⟩
end

section
variable {c : Cx} {n : Nat} {sc : Scope} {σ σ' : Hp} {m m' : Lm}

/-- the caller's frame under a call -/
noncomputable def hideF (σ : Hp) (h : Heap) : Fx := fun b => if b ∈ σ.map (·.1) then none else h.get? b
theorem St.frame {F : Fx} {env : Env} {ow : List (Str × Addr)} {s : Shared} (h : St c F σ env ow m s) :
    Rs c (hideF σ s.heap) σ s ∧ ∀ σ' s', Rs c (hideF σ s.heap) σ' s' → St c F σ' env ow m s' := by
  have hF : ∀ b o, F b = some o → hideF σ s.heap b = some o := fun b o e => by
    unfold hideF
    rw [if_neg (fun q => by rw [h.r.keyFree q] at e; cases e)]
    exact h.r.fix b o e
  have hL : ∀ b o, b ∉ σ.map (·.1) → s.heap.get? b = some o → hideF σ s.heap b = some o := fun b o q e => by
    unfold hideF; rw [if_neg q]; exact e
  refine ⟨⟨fun b o e => hF b o (h.r.base b o e), fun b o e => ?_, fun p hp => ⟨?_, (h.r.cell p hp).2⟩, h.r.nd, h.r.os, h.r.gens⟩, fun σ' s' r => ?_⟩
  · unfold hideF at e
    split at e
    · cases e
    · exact e
  · unfold hideF; rw [if_pos (List.mem_map_of_mem hp)]
  · have nokey : ∀ b o, hideF σ s.heap b = some o → b ∉ σ'.map (·.1) := fun b o e q => by rw [r.keyFree q] at e; cases e
    have keep : ∀ b o, b ∉ σ.map (·.1) → s.heap.get? b = some o → s'.heap.get? b = some o ∧ b ∉ σ'.map (·.1) := fun b o q e => ⟨r.fix b o (hL b o q e), nokey b o (hL b o q e)⟩
    refine ⟨⟨h.r.base, fun b o e => r.fix b o (hF b o e), fun p hp => ⟨?_, (r.cell p hp).2⟩, r.nd, r.os, r.gens⟩, ?_⟩
    · cases e : F p.1 with
      | none => rfl
      | some o => have := (r.cell p hp).1; rw [hF _ _ e] at this; cases this
    · obtain ⟨mm, h1, h2⟩ := h.f.ns
      obtain ⟨oL, es, ep, g1, g2⟩ := id h1
      refine ⟨⟨mm, h1.at' fun o e => (keep _ o h.f.off e).1, h2⟩, fun x v hx => ?_, h.f.free, (keep _ _ h.f.off g1).2, h.f.above, fun x a hp => ?_, h.f.ownd⟩
      · rcases h.f.cl x v hx with q | ⟨a, vv, o, q1, q2, q3, q4, q5, q6⟩
        · exact .inl q
        · refine .inr ⟨a, vv, o, q1, q2, ?_, q4, q5, q6⟩
          rcases q6 with q6 | q6
          · exact r.fix _ _ (hF _ _ q6)
          · exact (keep _ _ (h.f.owd _ _ q6).2.1 q3).1
      · obtain ⟨a1, a2, a3, o, v, a4, a5⟩ := h.f.owd x a hp
        exact ⟨a1, (keep _ _ a2 a4).2, a3, o, v, (keep _ _ a2 a4).1, a5⟩

theorem St.big {F : Fx} {env : Env} {ow : List (Str × Addr)} {s : Shared} (h : St c F σ env ow m s) : Big c (hideF σ s.heap) := by
  obtain ⟨mm, ⟨oL, es, ep, g1, g2⟩, h2⟩ := h.f.ns
  refine ⟨env.locals, oL, ?_, Nat.le_succ_of_le h.f.above⟩
  unfold hideF; rw [if_neg h.f.off]; exact g1
theorem TE.mono {e : Expr} {Q Q' : AV → Hp → Prop} (h : TE c n sc σ m e Q) (hq : ∀ v σ', Q v σ' → Q' v σ') : TE c n sc σ m e Q' :=
  fun A F env ow s ha he hs => wpAny_mono (h A F env ow s ha he hs) (fun _ _ => PE.go fun av σ' h1 h2 h3 => ⟨av, σ', h1, hq _ _ h2, h3⟩) fun _ _ x => x
theorem TC.mono {f : AV} {args : List AV} {Q Q' : AV → Hp → Prop} (h : TC c n f args σ Q) (hq : ∀ v σ', Q v σ' → Q' v σ') : TC c n f args σ Q' :=
  fun A F s fv vs ha hg hs hf hv => wpAny_mono (h A F s fv vs ha hg hs hf hv) (fun _ _ => PC.go fun av σ' h1 h2 h3 => ⟨av, σ', h1, hq _ _ h2, h3⟩) fun _ _ x => x
theorem TS.mono {sts : List Stmt} {Qn Qn' : Hp → Lm → Prop} {Qr Qr' : AF → Hp → Lm → Prop} (h : TS c n sc σ m sts Qn Qr) (hn : ∀ σ' m', Qn σ' m' → Qn' σ' m') (hr : ∀ f σ' m', Qr f σ' m' → Qr' f σ' m') : TS c n sc σ m sts Qn' Qr' :=
  fun A F env ow s ha he hs => wpAny_mono (h A F env ow s ha he hs) (fun _ _ => ex4 fun σ' m' h1 h2 => ⟨σ', m', h1.imp (fun ⟨a, b⟩ => ⟨a, hn _ _ b⟩) (fun ⟨af, a, b⟩ => ⟨af, a, hr _ _ _ b⟩), h2⟩) fun _ _ x => x
theorem TS.sub {sts : List Stmt} {Qn : Hp → Lm → Prop} {Qr : AF → Hp → Lm → Prop} (hs : σ'.Sublist σ) (hl : ∀ x v, m' x = some v → m x = some v) (h : TS c n sc σ' m' sts Qn Qr) : TS c n sc σ m sts Qn Qr :=
  fun A F env ow s ha he st => h A F env ow s ha he ((st.sub hs).less hl)
theorem TS.less {sts : List Stmt} {Qn : Hp → Lm → Prop} {Qr : AF → Hp → Lm → Prop} (hl : ∀ x v, m' x = some v → m x = some v) (h : TS c n sc σ m' sts Qn Qr) : TS c n sc σ m sts Qn Qr := h.sub (List.Sublist.refl _) hl

/-! constants and names -/
theorem t_int {i : Int} {k : Nat} {pos : Pos} {Q : AV → Hp → Prop} (h : Q (.int i) σ) : TE c n sc σ m (.Constant (.int i) k pos) Q :=
  fun _ _ _ _ _ _ _ hs => wpAny_Constant_int (ex_int h hs.tok)
theorem t_none {k : Nat} {pos : Pos} {Q : AV → Hp → Prop} (h : Q .none σ) : TE c n sc σ m (.Constant .none k pos) Q :=
  fun _ _ _ _ _ _ _ hs => wpAny_Constant_none (ex_none h hs)
theorem t_bool {b : Bool} {k : Nat} {pos : Pos} {Q : AV → Hp → Prop} (h : Q (.bool b) σ) : TE c n sc σ m (.Constant (.bool b) k pos) Q :=
  fun _ _ _ _ _ _ _ hs => wpAny_Constant_bool (ex_bool h hs)
theorem okName_spec {x : Str} (h : okName x = true) : (x == ("__debug__" : Str)) = false ∧ (x == ("__classdict__" : Str)) = false := by
  unfold okName at h
  simp only [Bool.and_eq_true, Bool.not_eq_true'] at h
  exact h
theorem t_name {x : Str} {pos : Pos} {v : AV} {Q : AV → Hp → Prop} (hx : m x = some v) (h : Q v σ) (ho : okName x = true := by with_unfolding_all exact rfl) : TE c n sc σ m (.Name x pos) Q := fun A F env ow s ha he hs => by
  obtain ⟨o1, o2⟩ := okName_spec ho
  rcases hs.f.cl x v hx with q | ⟨a, vv, o, q1, q2, q3, q4, q5, q6⟩
  · obtain ⟨mm, h1, h2⟩ := hs.f.ns
    obtain ⟨vv, e, r⟩ := h2 x v hx q
    exact wpAny_Name (wpAny_loadName_local he.kind q h1 e ⟨_, _, r, h, hs⟩) o1
  · rcases q1 with q1 | q1
    · exact wpAny_Name (wpAny_loadName_cell he.kind q1 q2 ⟨_, q3, q4⟩ ⟨_, _, q5, h, hs⟩) o1
    · exact wpAny_Name (wpAny_loadName_free he.kind q1 q2 ⟨_, q3, q4⟩ ⟨_, _, q5, h, hs⟩ o2) o1
theorem St.globals {F : Fx} {env : Env} {ow : List (Str × Addr)} {s : Shared} (h : St c F σ env ow m s) (b : Addr) (o : Obj) (e : c.base.get? b = some o) : s.heap.get? b = some o := h.r.fix b o (h.r.base b o e)
theorem t_global {x : Str} {pos : Pos} {v : AV} {vv : Value} {Q : AV → Hp → Prop} (hv : c.mg x = some vv) (hr : v.rel c vv) (h : Q v σ) (hk : sc.names.lookup x = some .globalImplicit) (ho : okName x = true := by with_unfolding_all exact rfl) : TE c n sc σ m (.Name x pos) Q := fun A F env ow s ha he hs => by
  refine Name_function_global he.kind (he.gl x hk) (loadGlobal_global (mg := c.mg) ?_ hv ⟨_, _, hr, h, hs⟩) (okName_spec ho).1
  rw [he.globals]; exact c.g.keeps hs.globals
theorem t_gint {x : Str} {pos : Pos} {i : Int} {Q : AV → Hp → Prop} (hv : consts.lookup x = some i) (h : Q (.int i) σ) (hk : sc.names.lookup x = some .globalImplicit := by with_unfolding_all exact rfl) (ho : okName x = true := by with_unfolding_all exact rfl) : TE c n sc σ m (.Name x pos) Q := by
  obtain ⟨t, e⟩ := c.const x i hv
  exact t_global (v := .int i) e ⟨t, rfl⟩ h hk ho
theorem t_gbi {x : Str} {pos : Pos} {v : Value} {Q : AV → Hp → Prop} (hv : builtinsUsed.lookup x = some v) (h : Q (.raw v) σ) (hk : sc.names.lookup x = some .globalImplicit := by with_unfolding_all exact rfl) (ho : okName x = true := by with_unfolding_all exact rfl) : TE c n sc σ m (.Name x pos) Q := fun A F env ow s ha he hs => by
  obtain ⟨e1, e2⟩ := c.bi x v hv
  refine Name_function_global he.kind (he.gl x hk) (loadGlobal_builtin (mg := c.mg) (mb := c.mb) ?_ e1 ?_ e2 (ex_raw h hs)) (okName_spec ho).1
  · rw [he.globals]; exact c.g.keeps hs.globals
  · rw [he.builtins]; exact c.b.keeps hs.globals

/-! operations -/
theorem t_bin {l r : Expr} {op : Operator} {pos : Pos} {Q : AV → Hp → Prop}
    (h : TE c n sc σ m l fun a σ1 => TE c n sc σ1 m r fun b σ2 => TBin c n σ2 op a b Q) : TE c n sc σ m (.BinOp l op r pos) Q :=
  fun A F env ow s ha he hs => by
    refine wpAny_BinOp (wpAny_mono (h A F env ow s ha he hs) (fun v s1 => PE.go fun av σ1 r1 h1 hs1 => wpAny_mono (h1 A F env ow s1 ha he hs1) (fun w s2 => PE.go fun aw σ2 r2 h2 hs2 => ?_) fun _ _ x => x.elim) fun _ _ x => x.elim)
    exact h2 A F env ow m s2 v w ha hs2 r1 r2
theorem Rs.keeps {F : Fx} {s : Shared} {h' : Heap} {tk : Nat} (h : Rs c F σ s) (hk : ∀ b o, s.heap.get? b = some o → h'.get? b = some o) : Rs c F σ { s with heap := h', toks := tk } :=
  ⟨h.base, fun b o e => hk b o (h.fix b o e), fun p hp => let ⟨h1, ob, h2, h3⟩ := h.cell p hp; ⟨h1, ob, hk _ _ h2, h3⟩, h.nd, h.os, h.gens⟩
theorem b_add {a b : Int} {Q : AV → Hp → Prop} (h : Q (.int (a + b)) σ) : TBin c n σ .Add (.int a) (.int b) Q := fun A F env ow m s v w ha hs e1 e2 => by
  obtain ⟨t, e1⟩ := e1
  obtain ⟨u, e2⟩ := e2
  subst e1 e2; exact add_int (ex_int h hs.tok)
theorem b_sub {a b : Int} {Q : AV → Hp → Prop} (h : Q (.int (a - b)) σ) : TBin c n σ .Sub (.int a) (.int b) Q := fun A F env ow m s v w ha hs e1 e2 => by
  obtain ⟨t, e1⟩ := e1
  obtain ⟨u, e2⟩ := e2
  subst e1 e2; exact sub_int (ex_int h hs.tok)
theorem b_and {a b : Int} {Q : AV → Hp → Prop} (h : Q (.int (Builtin.bitAnd a b)) σ) : TBin c n σ .BitAnd (.int a) (.int b) Q := fun A F env ow m s v w ha hs e1 e2 => by
  obtain ⟨t, e1⟩ := e1
  obtain ⟨u, e2⟩ := e2
  subst e1 e2; exact and_int (ex_int h hs.tok)
theorem b_or {a b : Int} {Q : AV → Hp → Prop} (h : Q (.int (Builtin.bitOr a b)) σ) : TBin c n σ .BitOr (.int a) (.int b) Q := fun A F env ow m s v w ha hs e1 e2 => by
  obtain ⟨t, e1⟩ := e1
  obtain ⟨u, e2⟩ := e2
  subst e1 e2; exact or_int (ex_int h hs.tok)
theorem b_mod {a b : Int} {Q : AV → Hp → Prop} (hb : b ≠ 0) (h : Q (.int (Int.fmod a b)) σ) : TBin c n σ .Mod (.int a) (.int b) Q := fun A F env ow m s v w ha hs e1 e2 => by
  obtain ⟨t, e1⟩ := e1
  obtain ⟨u, e2⟩ := e2
  subst e1 e2; exact mod_int' hb (ex_int h hs.tok)
end
section
variable {c : Cx} {n : Nat} {sc : Scope} {σ σ' : Hp} {m m' : Lm}

theorem b_mul {a b : Int} {Q : AV → Hp → Prop} (hb : -(2 ^ 64) < b ∧ b < 2 ^ 64) (h : Q (.int (a * b)) σ) : TBin c n σ .Mult (.int a) (.int b) Q := fun A F env ow m s v w ha hs e1 e2 => by
  obtain ⟨t, e1⟩ := e1
  obtain ⟨u, e2⟩ := e2
  subst e1 e2
  refine mul_int (ex_int h hs.tok) ?_
  unfold IntMulOk
  have := intBits_le_64 hb.1 hb.2
  have : decide (Builtin.Int.intBits b > shortFactorBits) = false := decide_eq_false (by show ¬ (Builtin.Int.intBits b > 64); lia)
  rw [this]; simp
theorem b_floordiv {a b : Int} {Q : AV → Hp → Prop} (hb : 0 < b ∧ b < 2 ^ 32) (h : Q (.int (Int.fdiv a b)) σ) : TBin c n σ .FloorDiv (.int a) (.int b) Q := fun A F env ow m s v w ha hs e1 e2 => by
  obtain ⟨t, e1⟩ := e1
  obtain ⟨u, e2⟩ := e2
  subst e1 e2
  refine floordiv_int (by lia) (ex_int h hs.tok) (.inl ?_)
  have h0 : (b == 0) = false := by simp; lia
  have hl : b.natAbs.log2 ≤ 32 := by
    have : b.natAbs.log2 < 32 := (Nat.log2_lt (by lia)).mpr (by lia)
    lia
  have hd : ¬ (b.natAbs.log2 / 30 + 1 > 300) := by lia
  unfold Builtin.divisionGoesByPylong
  simp only [h0, Bool.false_eq_true, if_false]
  rw [decide_eq_false hd]; rfl

/-! comparisons -/
theorem cm_eq {a b : Int} {Q : Bool → Hp → Prop} (h : Q (a == b) σ) : TCmp c n σ .Eq (.int a) (.int b) Q := fun A F env ow m s v w ha hs e1 e2 => by
  obtain ⟨t, e1⟩ := e1
  obtain ⟨u, e2⟩ := e2
  subst e1 e2; exact eq_int ⟨_, _, rfl, h, hs⟩
theorem cm_ne {a b : Int} {Q : Bool → Hp → Prop} (h : Q (a != b) σ) : TCmp c n σ .NotEq (.int a) (.int b) Q := fun A F env ow m s v w ha hs e1 e2 => by
  obtain ⟨t, e1⟩ := e1
  obtain ⟨u, e2⟩ := e2
  subst e1 e2; exact ne_int ⟨_, _, rfl, h, hs⟩
theorem cm_lt {a b : Int} {Q : Bool → Hp → Prop} (h : Q (decide (a < b)) σ) : TCmp c n σ .Lt (.int a) (.int b) Q := fun A F env ow m s v w ha hs e1 e2 => by
  obtain ⟨t, e1⟩ := e1
  obtain ⟨u, e2⟩ := e2
  subst e1 e2; exact lt_int ⟨_, _, rfl, h, hs⟩
theorem cm_le {a b : Int} {Q : Bool → Hp → Prop} (h : Q (decide (a ≤ b)) σ) : TCmp c n σ .LtE (.int a) (.int b) Q := fun A F env ow m s v w ha hs e1 e2 => by
  obtain ⟨t, e1⟩ := e1
  obtain ⟨u, e2⟩ := e2
  subst e1 e2; exact le_int ⟨_, _, rfl, h, hs⟩
theorem cm_gt {a b : Int} {Q : Bool → Hp → Prop} (h : Q (decide (b < a)) σ) : TCmp c n σ .Gt (.int a) (.int b) Q := fun A F env ow m s v w ha hs e1 e2 => by
  obtain ⟨t, e1⟩ := e1
  obtain ⟨u, e2⟩ := e2
  subst e1 e2; exact gt_int ⟨_, _, rfl, h, hs⟩
theorem cm_ge {a b : Int} {Q : Bool → Hp → Prop} (h : Q (decide (b ≤ a)) σ) : TCmp c n σ .GtE (.int a) (.int b) Q := fun A F env ow m s v w ha hs e1 e2 => by
  obtain ⟨t, e1⟩ := e1
  obtain ⟨u, e2⟩ := e2
  subst e1 e2; exact ge_int ⟨_, _, rfl, h, hs⟩
noncomputable def AV.isNone : AV → Bool
  | .none => true
  | _ => false
noncomputable def AV.okNone : AV → Bool
  | .none => true | .ref _ => true | .int _ => true | .bool _ => true
  | _ => false
theorem AV.isNone_spec {a : AV} {v : Value} (ho : a.okNone = true) (h : a.rel c v) : (v == .none) = a.isNone := by
  cases a with
  | none => cases h; rfl
  | bool b => cases h; rfl
  | int i => obtain ⟨t, rfl⟩ := h; rfl
  | ref a => cases h; rfl
  | raw v => cases ho
  | glob n => cases ho
theorem cm_is {a : AV} {Q : Bool → Hp → Prop} (h : Q a.isNone σ) (ho : a.okNone = true := by with_unfolding_all exact rfl) : TCmp c n σ .Is a .none Q := fun A F env ow m s v w ha hs e1 e2 => by
  cases e2; exact is_none (by rw [AV.isNone_spec ho e1]; exact ⟨_, _, rfl, h, hs⟩)
theorem cm_isnot {a : AV} {Q : Bool → Hp → Prop} (h : Q (!a.isNone) σ) (ho : a.okNone = true := by with_unfolding_all exact rfl) : TCmp c n σ .IsNot a .none Q := fun A F env ow m s v w ha hs e1 e2 => by
  cases e2; exact isNot_none (by rw [AV.isNone_spec ho e1]; exact ⟨_, _, rfl, h, hs⟩)

/-- a comparison within a frame -/
theorem TCmp.at {op : CmpOp} {a b : AV} {Q : Bool → Hp → Prop} (h : TCmp c n σ op a b Q) {A : Around} {F : Fx} {env : Env} {ow : List (Str × Addr)} {s : Shared} {v w : Value} (ha : AOk n A) (hs : St c F σ env ow m s) (hv : a.rel c v) (hw : b.rel c w) :
    wpAny (model c.prog c.w) A (compareOp op v w) (PQ c Q F env ow m) (fun _ _ => False) s := h A F env ow m s v w ha hs hv hw

theorem t_cmp {l r : Expr} {op : CmpOp} {pos : Pos} {Q : AV → Hp → Prop}
    (h : TE c n sc σ m l fun a σ1 => TE c n sc σ1 m r fun b σ2 => TCmp c n σ2 op a b fun x σ3 => Q (.bool x) σ3) (hm : behindInMarks op r = false := by with_unfolding_all exact rfl) : TE c n sc σ m (.Compare l [op] [r] pos) Q :=
  fun A F env ow s ha he hs => by
    refine wpAny_Compare1 (wpAny_mono (h A F env ow s ha he hs) (fun v s1 => PE.go fun av σ1 r1 h1 hs1 => wpAny_mono (h1 A F env ow s1 ha he hs1) (fun w s2 => PE.go fun aw σ2 r2 h2 hs2 => ?_) fun _ _ x => x.elim) fun _ _ x => x.elim) hm
    exact wpAny_mono (h2.at ha hs2 r1 r2) (fun x s3 => PQ.go fun b σ3 r3 h3 hs3 => ⟨.bool b, σ3, r3, h3, hs3⟩) fun _ _ x => x
theorem tb_cmp {l r : Expr} {op : CmpOp} {pos : Pos} {Q : Bool → Hp → Prop}
    (h : TE c n sc σ m l fun a σ1 => TE c n sc σ1 m r fun b σ2 => TCmp c n σ2 op a b Q) (hm : behindInMarks op r = false := by with_unfolding_all exact rfl) : TB c n sc σ m (.Compare l [op] [r] pos) Q :=
  fun A F env ow s ha he hs => by
    refine wpAny_isTrue_Compare1 (wpAny_mono (h A F env ow s ha he hs) (fun v s1 => PE.go fun av σ1 r1 h1 hs1 => wpAny_mono (h1 A F env ow s1 ha he hs1) (fun w s2 => PE.go fun aw σ2 r2 h2 hs2 => ?_) fun _ _ x => x.elim) fun _ _ x => x.elim) hm
    refine wpAny_mono (h2.at ha hs2 r1 r2) (fun x s3 => PQ.go fun b σ3 r3 h3 hs3 => ?_) fun _ _ x => x
    subst r3
    exact wpAny_truthy_bool ⟨σ3, h3, hs3⟩
theorem tb_cmp2 {l r r' : Expr} {op op' : CmpOp} {pos : Pos} {Q : Bool → Hp → Prop}
    (h : TE c n sc σ m l fun a σ1 => TE c n sc σ1 m r fun b σ2 => TCmp c n σ2 op a b fun x σ3 => (x = false → Q false σ3) ∧ (x = true → TE c n sc σ3 m r' fun b' σ4 => TCmp c n σ4 op' b b' Q))
    (hm : lastMarks [op, op'] [r, r'] = false := by with_unfolding_all exact rfl) : TB c n sc σ m (.Compare l [op, op'] [r, r'] pos) Q :=
  fun A F env ow s ha he hs => by
    refine isTrue_chain (wpAny_mono (h A F env ow s ha he hs) (fun v s1 => PE.go fun av σ1 r1 h1 hs1 => test_link (wpAny_mono (h1 A F env ow s1 ha he hs1) (fun w s2 => PE.go fun aw σ2 r2 h2 hs2 => ?_) fun _ _ x => x.elim)) fun _ _ x => x.elim) hm
    refine wpAny_mono (h2.at ha hs2 r1 r2) (fun x s3 => PQ.go fun b σ3 r3 h3 hs3 => ?_) fun _ _ x => x
    subst r3
    refine wpAny_truthy_bool ?_
    cases b with
    | false => exact ⟨σ3, h3.1 rfl, hs3⟩
    | true =>
      refine test_last (wpAny_mono (h3.2 rfl A F env ow s3 ha he hs3) (fun w' s4 => PE.go fun aw' σ4 r4 h4 hs4 => ?_) fun _ _ x => x)
      refine wpAny_mono (h4.at ha hs4 r2 r4) (fun x s5 => PQ.go fun b σ5 r5 h5 hs5 => ?_) fun _ _ x => x
      subst r5
      exact wpAny_truthy_bool ⟨σ5, h5, hs5⟩

/-! tests -/
theorem tb_not {x : Expr} {pos : Pos} {Q : Bool → Hp → Prop} (h : TB c n sc σ m x fun b σ' => Q (!b) σ') : TB c n sc σ m (.UnaryOp .Not x pos) Q :=
  fun A F env ow s ha he hs => wpAny_isTrue_Not (h A F env ow s ha he hs)
theorem tb_and {x y : Expr} {pos : Pos} {Q : Bool → Hp → Prop} (h : TB c n sc σ m x fun b σ' => (b = false → Q false σ') ∧ (b = true → TB c n sc σ' m y Q)) : TB c n sc σ m (.BoolOp .And [x, y] pos) Q :=
  fun A F env ow s ha he hs => by
    refine wpAny_isTrue_BoolOp (wpAny_allTrue_And_cons (wpAny_mono (h A F env ow s ha he hs) (fun b s1 => ex3 fun σ1 h1 hs1 => ?_) fun _ _ x => x))
    cases b with
    | false => exact ⟨σ1, h1.1 rfl, hs1⟩
    | true =>
      refine wpAny_allTrue_And_cons (wpAny_mono (h1.2 rfl A F env ow s1 ha he hs1) (fun b s2 => ex3 fun σ2 h2 hs2 => ?_) fun _ _ x => x)
      cases b with
      | false => exact ⟨σ2, h2, hs2⟩
      | true => exact wpAny_allTrue_And_nil ⟨σ2, h2, hs2⟩
theorem tb_or {x y : Expr} {pos : Pos} {Q : Bool → Hp → Prop} (h : TB c n sc σ m x fun b σ' => (b = true → Q true σ') ∧ (b = false → TB c n sc σ' m y Q)) : TB c n sc σ m (.BoolOp .Or [x, y] pos) Q :=
  fun A F env ow s ha he hs => by
    refine wpAny_isTrue_BoolOp (wpAny_allTrue_Or_cons (wpAny_mono (h A F env ow s ha he hs) (fun b s1 => ex3 fun σ1 h1 hs1 => ?_) fun _ _ x => x))
    cases b with
    | true => exact ⟨σ1, h1.1 rfl, hs1⟩
    | false =>
      refine wpAny_allTrue_Or_cons (wpAny_mono (h1.2 rfl A F env ow s1 ha he hs1) (fun b s2 => ex3 fun σ2 h2 hs2 => ?_) fun _ _ x => x)
      cases b with
      | true => exact ⟨σ2, h2, hs2⟩
      | false => exact wpAny_allTrue_Or_nil ⟨σ2, h2, hs2⟩
theorem tb_and3 {x y z : Expr} {pos : Pos} {Q : Bool → Hp → Prop} (h : TB c n sc σ m x fun b σ' => (b = false → Q false σ') ∧ (b = true → TB c n sc σ' m (.BoolOp .And [y, z] pos) Q)) : TB c n sc σ m (.BoolOp .And [x, y, z] pos) Q :=
  fun A F env ow s ha he hs => by
    refine wpAny_isTrue_BoolOp (wpAny_allTrue_And_cons (wpAny_mono (h A F env ow s ha he hs) (fun b s1 => ex3 fun σ1 h1 hs1 => ?_) fun _ _ x => x))
    cases b with
    | false => exact ⟨σ1, h1.1 rfl, hs1⟩
    | true => exact wpAny_mono (h1.2 rfl A F env ow s1 ha he hs1) (fun _ _ x => x) fun _ _ x => x
theorem tb_or3 {x y z : Expr} {pos : Pos} {Q : Bool → Hp → Prop} (h : TB c n sc σ m x fun b σ' => (b = true → Q true σ') ∧ (b = false → TB c n sc σ' m (.BoolOp .Or [y, z] pos) Q)) : TB c n sc σ m (.BoolOp .Or [x, y, z] pos) Q :=
  fun A F env ow s ha he hs => by
    refine wpAny_isTrue_BoolOp (wpAny_allTrue_Or_cons (wpAny_mono (h A F env ow s ha he hs) (fun b s1 => ex3 fun σ1 h1 hs1 => ?_) fun _ _ x => x))
    cases b with
    | true => exact ⟨σ1, h1.1 rfl, hs1⟩
    | false => exact wpAny_mono (h1.2 rfl A F env ow s1 ha he hs1) (fun _ _ x => x) fun _ _ x => x
/-- the truth of a value -/
noncomputable def TTr (c : Cx) (n : Nat) (σ : Hp) (a : AV) (Q : Bool → Hp → Prop) : Prop :=
  ∀ A F env ow m s v, AOk n A → St c F σ env ow m s → a.rel c v →
    wpAny (model c.prog c.w) A (truthy v) (PB c Q F env ow m) (fun _ _ => False) s
theorem tr_bool {b : Bool} {Q : Bool → Hp → Prop} (h : Q b σ) : TTr c n σ (.bool b) Q := fun A F env ow m s v ha hs e => by cases e; exact wpAny_truthy_bool ⟨_, h, hs⟩
theorem TTr.at {a : AV} {Q : Bool → Hp → Prop} (h : TTr c n σ a Q) {A : Around} {F : Fx} {env : Env} {ow : List (Str × Addr)} {s : Shared} {v : Value} (ha : AOk n A) (hs : St c F σ env ow m s) (hv : a.rel c v) :
    wpAny (model c.prog c.w) A (truthy v) (PB c Q F env ow m) (fun _ _ => False) s := h A F env ow m s v ha hs hv
/-- the kinds of an expression that the rules tell apart -/
noncomputable def ek : Expr → Nat
  | .Starred .. => 1 | .Slice .. => 2 | .ListComp .. => 3 | .SetComp .. => 3 | .DictComp .. => 3 | .Tuple .. => 4 | .List .. => 4 | .Call .. => 5
  | .Name .. => 6 | .Attribute .. => 6 | .Subscript .. => 6 | .Constant .. => 6
  | _ => 0
noncomputable def plainTest (e : Expr) : Bool := Nat.ble 5 (ek e)
theorem tb_val {e : Expr} {Q : Bool → Hp → Prop} (h : TE c n sc σ m e fun v σ' => TTr c n σ' v Q) (hp : plainTest e = true := by with_unfolding_all exact rfl) : TB c n sc σ m e Q :=
  fun A F env ow s ha he hs => by
    refine isTrue_plain (wpAny_mono (h A F env ow s ha he hs) (fun v s1 => PE.go fun av σ1 r1 h1 hs1 => h1.at ha hs1 r1) fun _ _ x => x.elim) ?_
    cases e <;> first | exact (Bool.false_ne_true hp).elim | rfl

/-! expressions -/
theorem t_ifexp {t b o : Expr} {pos : Pos} {Q : AV → Hp → Prop} (h : TB c n sc σ m t fun x σ' => (x = true → TE c n sc σ' m b Q) ∧ (x = false → TE c n sc σ' m o Q)) : TE c n sc σ m (.IfExp t b o pos) Q :=
  fun A F env ow s ha he hs => by
    refine IfExp_ (wpAny_mono (h A F env ow s ha he hs) (fun b s1 => ex3 fun σ1 h1 hs1 => ?_) fun _ _ x => x)
    cases b with
    | true => exact h1.1 rfl A F env ow s1 ha he hs1
    | false => exact h1.2 rfl A F env ow s1 ha he hs1
theorem t_or {x y : Expr} {pos : Pos} {Q : AV → Hp → Prop} (h : TE c n sc σ m x fun v σ' => TTr c n σ' v fun b σ'' => (b = true → Q v σ'') ∧ (b = false → TE c n sc σ'' m y Q)) : TE c n sc σ m (.BoolOp .Or [x, y] pos) Q :=
  fun A F env ow s ha he hs => by
    refine wpAny_Or2 (wpAny_mono (h A F env ow s ha he hs) (fun v s1 => PE.go fun av σ1 r1 h1 hs1 => wpAny_mono (h1.at ha hs1 r1) (fun b s2 => ex3 fun σ2 h2 hs2 => ?_) fun _ _ x => x.elim) fun _ _ x => x.elim)
    cases b with
    | true => exact ⟨av, σ2, r1, h2.1 rfl, hs2⟩
    | false => exact h2.2 rfl A F env ow s2 ha he hs2
/-! statements -/
theorem s_nil {Qn : Hp → Lm → Prop} {Qr : AF → Hp → Lm → Prop} (h : Qn σ m) : TS c n sc σ m [] Qn Qr := fun A F env ow s ha he hs => wpAny_execs_nil ⟨σ, m, .inl ⟨rfl, h⟩, hs⟩
theorem s_cons {st : Stmt} {rest : List Stmt} {Qn : Hp → Lm → Prop} {Qr : AF → Hp → Lm → Prop} (h : TX c n sc σ m st (fun σ' m' => TS c n sc σ' m' rest Qn Qr) Qr) : TS c n sc σ m (st :: rest) Qn Qr :=
  fun A F env ow s ha he hs => by
    refine wpAny_execs_cons (wpAny_mono (h A F env ow s ha he hs) (fun f s1 => ex4 fun σ1 m1 h1 hs1 => ?_) fun _ _ x => x)
    rcases h1 with ⟨rfl, h1⟩ | ⟨af, r, h1⟩
    · exact h1 A F env ow s1 ha he hs1
    · cases af with
      | brk => cases r; exact ⟨σ1, m1, .inr ⟨.brk, rfl, h1⟩, hs1⟩
      | cont => cases r; exact ⟨σ1, m1, .inr ⟨.cont, rfl, h1⟩, hs1⟩
      | ret v => obtain ⟨vv, rfl, r⟩ := r; exact ⟨σ1, m1, .inr ⟨.ret v, ⟨vv, rfl, r⟩, h1⟩, hs1⟩
theorem x_ret {e : Expr} {pos : Pos} {Qn : Hp → Lm → Prop} {Qr : AF → Hp → Lm → Prop} (h : TE c n sc σ m e fun v σ' => Qr (.ret v) σ' m) : TX c n sc σ m (.Return (some e) pos) Qn Qr :=
  fun A F env ow s ha he hs => wpAny_Return_some (wpAny_mono (h A F env ow s ha he.toEnvOk hs) (fun v s1 => PE.go fun av σ1 r1 h1 hs1 => ⟨σ1, m, .inr ⟨.ret av, ⟨v, rfl, r1⟩, h1⟩, hs1⟩) fun _ _ x => x)
theorem x_if {t : Expr} {b o : List Stmt} {pos : Pos} {Qn : Hp → Lm → Prop} {Qr : AF → Hp → Lm → Prop} (h : TB c n sc σ m t fun x σ' => (x = true → TS c n sc σ' m b Qn Qr) ∧ (x = false → TS c n sc σ' m o Qn Qr)) : TX c n sc σ m (.If t b o pos) Qn Qr :=
  fun A F env ow s ha he hs => by
    refine wpAny_If (wpAny_mono (h A F env ow s ha he.toEnvOk hs) (fun x s1 => ex3 fun σ1 h1 hs1 => ?_) fun _ _ x => x)
    cases x with
    | true => exact h1.1 rfl A F env ow s1 ha he hs1
    | false => exact h1.2 rfl A F env ow s1 ha he hs1
end
section
variable {c : Cx} {n : Nat} {sc : Scope} {σ σ' : Hp} {m m' : Lm}

noncomputable def noStar (e : Expr) : Bool := !Nat.beq (ek e) 1
theorem star_cons {e : Expr} {rest : List Expr} {env : Env} (h : noStar e = true) : starEach (e :: rest) env = (false, eval e env) :: starEach rest env := by
  cases e <;> first | exact (Bool.false_ne_true h).elim | rfl
noncomputable abbrev PAr (c : Cx) (k : Nat) (Q : List AV → Hp → Prop) (F : Fx) (env : Env) (ow : List (Str × Addr)) (m : Lm) (vs : List Value) (s : Shared) : Prop := ∃ avs σ', (avs.length = k ∧ VsRel c avs vs) ∧ Q avs σ' ∧ St c F σ' env ow m s
theorem PAr.go {k : Nat} {Q : List AV → Hp → Prop} {F : Fx} {env : Env} {ow : List (Str × Addr)} {vs : List Value} {s : Shared} {X : Prop} (f : ∀ avs σ', (avs.length = k ∧ VsRel c avs vs) → Q avs σ' → St c F σ' env ow m s → X) (h : PAr c k Q F env ow m vs s) : X := by
  obtain ⟨av, σ', h1, h2, h3⟩ := h
  exact f av σ' h1 h2 h3
theorem args_run {pos : Pos} : ∀ (es : List Expr) {σ : Hp} {Q : List AV → Hp → Prop}, es.all noStar = true → TEs c n sc m σ es Q → ∀ A F env ow s, AOk n A → EnvOk sc env ow → St c F σ env ow m s →
    wpAny (model c.prog c.w) A (spliced (backTo pos (starEach es env))) (PAr c es.length Q F env ow m) (fun _ _ => False) s := by
  intro es
  induction es with
  | nil => intro σ Q _ h A F env ow s ha he hs; exact args_nil ⟨[], σ, ⟨rfl, trivial⟩, h, hs⟩
  | cons e es ih =>
    intro σ Q hp h A F env ow s ha he hs
    rw [List.all_cons, Bool.and_eq_true] at hp
    refine args_cons (wpAny_mono (h A F env ow s ha he hs) (fun v s1 => PE.go fun av σ1 r1 h1 hs1 => ?_) fun _ _ x => x) (star_cons hp.1)
    exact wpAny_mono (ih hp.2 h1 A F env ow s1 ha he hs1) (fun vs s2 => PAr.go fun avs σ2 r2 h2 hs2 => ⟨av :: avs, σ2, ⟨by simp [r2.1], r1, r2.2⟩, h2, hs2⟩) fun _ _ x => x
theorem args_noany {pos : Pos} {env : Env} : ∀ (es : List Expr), es.all noStar = true → (backTo pos (starEach es env)).any (·.1) = false := by
  intro es
  induction es with
  | nil => intro _; rfl
  | cons e es ih =>
    intro h
    rw [List.all_cons, Bool.and_eq_true] at h
    rw [star_cons h.1]
    show (false || (backTo pos (starEach es env)).any (·.1)) = false
    rw [ih h.2]; rfl

/-- a built-in called within a frame -/
noncomputable def TCB (c : Cx) (n : Nat) (v : Value) (args : List AV) (σ : Hp) (Q : AV → Hp → Prop) : Prop :=
  ∀ A F env ow m s vs, AOk n A → St c F σ env ow m s → VsRel c args vs →
    wpAny (model c.prog c.w) A (call v vs []) (PE c Q F env ow m) (fun _ _ => False) s
/-- a class called within a frame -/
noncomputable def TCC (c : Cx) (n : Nat) (C : Addr) (args : List AV) (σ : Hp) (Q : AV → Hp → Prop) : Prop :=
  ∀ A F env ow m s vs, AOk n A → St c F σ env ow m s → VsRel c args vs →
    wpAny (model c.prog c.w) A (call (.ref C) vs []) (PE c Q F env ow m) (fun _ _ => False) s
/-- what may be called -/
inductive Cal (c : Cx) : AV → Prop
  | glob {f : Str} {a : Addr} {o : Obj} {fd : FuncData} : c.mg f = some (.ref a) → c.base.get? a = some o → o.data = .func fd → Cal c (.glob f)
  | cls {f : Str} {a : Addr} : c.mg f = some (.ref a) → keepIn c.K (.ref a) = true → Cal c (.glob f)
  | builtin {id : String} : Cal c (.raw (.builtin id))
  | type {T : String} : Cal c (.raw (.type T))

theorem call_run {fv : Value} {f : AV} {pos : Pos} {e : Expr} {es : List Expr} {σ : Hp} {R : List AV → Hp → Prop} {Qp : Value → Shared → Prop} (hc : Cal c f) (hp : (e :: es).all noStar = true) (h : TEs c n sc m σ (e :: es) R)
    {A : Around} {F : Fx} {env : Env} {ow : List (Str × Addr)} {s : Shared} (ha : AOk n A) (he : EnvOk sc env ow) (hs : St c F σ env ow m s) (hf : f.rel c fv)
    (hR : ∀ vs s1 avs σ1, R avs σ1 → VsRel c avs vs → St c F σ1 env ow m s1 → wpAny (model c.prog c.w) A (call fv vs []) Qp (fun _ _ => False) s1) :
    wpAny (model c.prog c.w) A (callWith pos fv [] (backTo pos (starEach (e :: es) env)) []) Qp (fun _ _ => False) s := by
  have run := args_run (pos := pos) (e :: es) hp h A F env ow s ha he hs
  have he1 : starEach (e :: es) env = (false, eval e env) :: starEach es env := star_cons (by rw [List.all_cons, Bool.and_eq_true] at hp; exact hp.1)
  have fin : ∀ vs s1, PAr c (e :: es).length R F env ow m vs s1 → wpAny (model c.prog c.w) A (call fv vs []) Qp (fun _ _ => False) s1 := fun vs s1 => PAr.go fun avs σ1 r1 h1 hs1 => hR vs s1 avs σ1 h1 r1.2 hs1
  cases hc with
  | @glob f a o fd h1 h2 h3 =>
    have : fv = .ref a := Option.some.inj (hf.symm.trans h1)
    subst this
    refine callWith_def (o := o) (fd := fd) h3 (wpAny_mono run (fun vs s1 h1 => ⟨?_, fin vs s1 h1⟩) fun _ _ x => x) he1
    obtain ⟨_, _, _, _, hs1⟩ := h1
    exact hs1.globals a o h2
  | @cls f a h1 h2 =>
    have : fv = .ref a := Option.some.inj (hf.symm.trans h1)
    subst this
    refine callWith_K (h₀ := c.base) c.kin h2 (wpAny_mono run (fun vs s1 h1 => ⟨?_, fin vs s1 h1⟩) fun _ _ x => x) he1 ?_
    · obtain ⟨_, _, _, _, hs1⟩ := h1
      exact c.kin.keeps hs1.globals
    · exact args_noany es (by rw [List.all_cons, Bool.and_eq_true] at hp; exact hp.2)
  | @builtin id =>
    have : fv = .builtin id := hf
    subst this
    exact PyProof.Rows.callWith_builtin1 (wpAny_mono run (fun vs s1 h1 => fin vs s1 h1) fun _ _ x => x) he1 (args_noany es (by rw [List.all_cons, Bool.and_eq_true] at hp; exact hp.2))
  | @type T =>
    have : fv = .type T := hf
    subst this
    exact PyProof.Rows.callWith_type1 (wpAny_mono run (fun vs s1 h1 => fin vs s1 h1) fun _ _ x => x) he1 (args_noany es (by rw [List.all_cons, Bool.and_eq_true] at hp; exact hp.2))

theorem call_def {f : AV} {fv : Value} {σ1 : Hp} {avs : List AV} {vs : List Value} {Q : AV → Hp → Prop} {A : Around} {F : Fx} {env : Env} {ow : List (Str × Addr)} {s1 : Shared} (h1 : TC c n f avs σ1 Q) (ha : AOk n A) (hf : f.rel c fv) (r1 : VsRel c avs vs) (hs1 : St c F σ1 env ow m s1) :
    wpAny (model c.prog c.w) A (call fv vs []) (PE c Q F env ow m) (fun _ _ => False) s1 := by
  obtain ⟨f1, f2⟩ := hs1.frame
  exact wpAny_mono (h1 A _ s1 fv vs ha hs1.big f1 hf r1) (fun x s3 => PC.go fun ax σ3 r3 h3 hs3 => ⟨ax, σ3, r3, h3, f2 _ _ hs3⟩) fun _ _ x => x

noncomputable def defNames : List Str := (["map_slots", "records_of_block", "records_of_extent", "directory_blocks", "need_writable", "new_entry", "entry_octets", "entry_from", "raw_entry", "read_entry", "write_entry", "put_entry", "free_entry",
  "live_entries", "used_blocks", "free_blocks", "map_of", "map_octets", "nearest_free", "allocate", "record_place", "read_record", "write_record", "faults_of", "peek", "poke", "octets_at", "put_octets", "name_at", "extent_at", "set_extent",
  "is_changed", "mark_changed", "count_at", "set_count", "current_at", "set_current", "blocks_at", "set_block", "take_entry", "begin_extent", "new_fcb", "matches", "has_flag", "find", "find_extent", "exists", "make", "make_extent",
  "need_changeable", "place_of", "size_of", "last_block", "read_at", "write_at", "code_of", "need_writable_file", "need_writable_disk", "merged", "close_file", "make_file", "leave_extent", "blank_block", "block_for", "write_here", "go_on",
  "write_next", "_law_next", "_law_octets", "_law_lost", "_law_is_told", "_law_is_sound", "law"] : List String).map Str.ofString
set_option maxRecDepth 100000 in
theorem defNames_ok : defNames.all (fun f => (defOf f).isSome) = true := by decide +kernel

theorem t_calld {f : Str} {p pos : Pos} {e : Expr} {es : List Expr} {Q : AV → Hp → Prop} (h : TEs c n sc m σ (e :: es) fun vs σ2 => TC c n (.glob f) vs σ2 Q)
    (hd : defNames.contains f = true := by with_unfolding_all exact rfl) (hk : sc.names.lookup f = some .globalImplicit := by with_unfolding_all exact rfl) (ho : okName f = true := by with_unfolding_all exact rfl) (hp : (e :: es).all noStar = true := by with_unfolding_all exact rfl) : TE c n sc σ m (.Call (.Name f p) (e :: es) [] pos) Q :=
  fun A F env ow s ha he hs => by
    obtain ⟨d, hd'⟩ := Option.isSome_iff_exists.mp (List.all_eq_true.mp defNames_ok f (by simpa using hd))
    obtain ⟨a, o, pm, code, doc, e1, e2, e3, _⟩ := c.fn f d hd'
    refine Call_Name rfl (wpAny_mono (t_global (v := .glob f) (Q := fun v σ' => v = .glob f ∧ σ' = σ) e1 e1 ⟨rfl, rfl⟩ hk ho A F env ow s ha he hs) (fun fv s1 => PE.go fun av σ1 r1 hx hs1 => hx.elim fun h1 h2 => ?_) fun _ _ x => x.elim)
    subst h1 h2
    exact call_run (.glob e1 e2 e3) hp h ha he hs1 r1 fun vs s1 avs σ1 h1 q1 q2 => call_def h1 ha r1 q1 q2
theorem t_callb {f : Str} {p pos : Pos} {e : Expr} {es : List Expr} {v : Value} {Q : AV → Hp → Prop} (hv : builtinsUsed.lookup f = some v) (hc : Cal c (.raw v)) (h : TEs c n sc m σ (e :: es) fun vs σ2 => TCB c n v vs σ2 Q)
    (hk : sc.names.lookup f = some .globalImplicit := by with_unfolding_all exact rfl) (ho : okName f = true := by with_unfolding_all exact rfl) (hp : (e :: es).all noStar = true := by with_unfolding_all exact rfl) : TE c n sc σ m (.Call (.Name f p) (e :: es) [] pos) Q :=
  fun A F env ow s ha he hs => by
    refine Call_Name rfl (wpAny_mono (t_gbi (v := v) (Q := fun v' σ' => v' = .raw v ∧ σ' = σ) hv ⟨rfl, rfl⟩ hk ho A F env ow s ha he hs) (fun fv s1 => PE.go fun av σ1 r1 hx hs1 => hx.elim fun h1 h2 => ?_) fun _ _ x => x.elim)
    subst h1 h2
    exact call_run hc hp h ha he hs1 r1 fun vs s1 avs σ1 h1 q1 q2 => by
      have : fv = v := r1
      subst this
      exact h1 A F env ow m s1 vs ha q2 q1
theorem t_callc {f : Str} {p pos : Pos} {e : Expr} {es : List Expr} {a : Addr} {Q : AV → Hp → Prop} (hv : c.mg f = some (.ref a)) (hkp : keepIn c.K (.ref a) = true) (h : TEs c n sc m σ (e :: es) fun vs σ2 => TCC c n a vs σ2 Q)
    (hk : sc.names.lookup f = some .globalImplicit := by with_unfolding_all exact rfl) (ho : okName f = true := by with_unfolding_all exact rfl) (hp : (e :: es).all noStar = true := by with_unfolding_all exact rfl) : TE c n sc σ m (.Call (.Name f p) (e :: es) [] pos) Q :=
  fun A F env ow s ha he hs => by
    refine Call_Name rfl (wpAny_mono (t_global (v := .glob f) (Q := fun v' σ' => v' = .glob f ∧ σ' = σ) hv hv ⟨rfl, rfl⟩ hk ho A F env ow s ha he hs) (fun fv s1 => PE.go fun av σ1 r1 hx hs1 => hx.elim fun h1 h2 => ?_) fun _ _ x => x.elim)
    subst h1 h2
    exact call_run (.cls hv hkp) hp h ha he hs1 r1 fun vs s1 avs σ1 h1 q1 q2 => by
      have : fv = .ref a := Option.some.inj (r1.symm.trans hv)
      subst this
      exact h1 A F env ow m s1 vs ha q2 q1
theorem es_nil {Q : List AV → Hp → Prop} (h : Q [] σ) : TEs c n sc m σ [] Q := h
theorem es_cons {e : Expr} {es : List Expr} {Q : List AV → Hp → Prop} (h : TE c n sc σ m e fun v σ' => TEs c n sc m σ' es fun vs σ'' => Q (v :: vs) σ'') : TEs c n sc m σ (e :: es) Q := h

/-! the call of a def -/
noncomputable def mput (m : Lm) (x : Str) (v : AV) : Lm := fun y => if y = x then some v else m y
noncomputable def bindA : List (Str × AV) → Lm → Lm
  | [], m => m
  | (x, v) :: r, m => bindA r (mput m x v)
noncomputable def retN (Q : AV → Hp → Prop) : Hp → Lm → Prop := fun σ _ => ∃ σ', σ'.Sublist σ ∧ Q .none σ'
noncomputable def retR (Q : AV → Hp → Prop) : AF → Hp → Lm → Prop
  | .ret v, σ, _ => ∃ σ', σ'.Sublist σ ∧ Q v σ'
  | _, _, _ => False
theorem bind_rel {kindOf : Str → Option NameKind} : ∀ (ns : List Str) (as : List AV) (vs : List Value) (m : Lm) (mm cm : Str → Option Value), ns.length = as.length → VsRel c as vs →
    (∀ x v, m x = some v → (kindOf x = some .local → ∃ vv, mm x = some vv ∧ v.rel c vv) ∧ (kindOf x ≠ some .local → ∃ vv, cm x = some vv ∧ v.rel c vv)) →
    ∀ x v, bindA (ns.zip as) m x = some v → (kindOf x = some .local → ∃ vv, bindL kindOf (ns.zip vs) mm x = some vv ∧ v.rel c vv) ∧ (kindOf x ≠ some .local → ∃ vv, bindC kindOf (ns.zip vs) cm x = some vv ∧ v.rel c vv) := by
  intro ns
  induction ns with
  | nil =>
    intro as vs m mm cm hl hr h
    cases as with
    | nil => cases vs with
      | nil => exact h
      | cons v vs => exact hr.elim
    | cons a as => cases hl
  | cons y ns ih =>
    intro as vs m mm cm hl hr h
    cases as with
    | nil => cases hl
    | cons a as =>
    cases vs with
    | nil => exact hr.elim
    | cons v vs =>
    intro x w hx
    rw [List.zip_cons_cons] at hx ⊢
    refine ih as vs _ _ _ (by simpa using hl) hr.2 (fun z u hz => ?_) x w hx
    unfold mput at hz
    by_cases e : z = y
    · rw [if_pos e] at hz
      cases hz
      subst e
      constructor
      · intro k; rw [if_pos k, if_pos rfl]; exact ⟨v, rfl, hr.1⟩
      · intro k; rw [if_neg k, if_pos rfl]; exact ⟨v, rfl, hr.1⟩
    · rw [if_neg e] at hz
      obtain ⟨h1, h2⟩ := h z u hz
      constructor
      · intro k
        obtain ⟨vv, e1, e2⟩ := h1 k
        refine ⟨vv, ?_, e2⟩
        split
        · show (if z = y then some v else mm z) = _
          rw [if_neg e]; exact e1
        · exact e1
      · intro k
        obtain ⟨vv, e1, e2⟩ := h2 k
        refine ⟨vv, ?_, e2⟩
        split
        · exact e1
        · show (if z = y then some v else cm z) = _
          rw [if_neg e]; exact e1
theorem bindA_key : ∀ (ns : List Str) (as : List AV) (m : Lm) (x : Str) (v : AV), bindA (ns.zip as) m x = some v → x ∈ ns ∨ m x = some v := by
  intro ns
  induction ns with
  | nil => intro as m x v h; exact .inr h
  | cons y ns ih =>
    intro as m x v h
    cases as with
    | nil => exact .inr h
    | cons a as =>
    rw [List.zip_cons_cons] at h
    rcases ih as _ x v h with h | h
    · exact .inl (.tail _ h)
    · unfold mput at h
      split at h
      · rename_i e; exact .inl (e ▸ .head _)
      · exact .inr h

/-- the parameters of a def that takes its arguments by place alone -/
noncomputable def plainPars (p : Arguments) : Bool := p.posonlyargs.isEmpty && p.vararg.isNone && p.kwonlyargs.isEmpty && p.kwarg.isNone
noncomputable def parsOk (scope : Scope) (ns : List Str) : Bool :=
  (ns.all fun x => scope.names.lookup x == some .local || scope.names.lookup x == some .cell) && scope.isCoroutine == false && scope.isGenerator == false && scope.kind == .function
theorem cellsFrom_look {x : Str} : ∀ (names : List (Str × NameKind)) (n : Nat) (acc : List (Str × Addr)), names.lookup x = some .cell ∨ (acc.lookup x).isSome = true → ((cellsFrom n names acc).lookup x).isSome = true := fun names n acc h => cellsFrom_some names n acc h

theorem def_core {A : Around} {F : Fx} {s : Shared} {a : Addr} {o : Obj} {fd : FuncData} {body : List Stmt} {scope : Scope} {ns : List Str} {args : List AV} {vs : List Value} {Q : AV → Hp → Prop}
    (ha : AOk (n + 1) A) (hg : Big c F) (hs : Rs c F σ s) (hv : VsRel c args vs) (e2 : c.base.get? a = some o) (e3 : o.data = .func fd) (e4 : c.base.CodeRec fd.code fd.qualname)
    (f1 : fd.body = .stmts body) (f2 : fd.scope = scope) (f3 : fd.closure = []) (f4 : fd.globals = mainGlobals) (f5 : fd.builtins = builtinsNs)
    (hb : ∀ vs : List Value, vs.length = ns.length → bindArgs fd ⟨vs, []⟩ = pure (ns.zip vs)) (hok : parsOk scope ns = true) (hl : ns.length = args.length)
    (h : TS c n scope σ (bindA (ns.zip args) fun _ => none) body (retN Q) (retR Q)) :
    codeAny (model c.prog c.w) A (.call (.ref a) ⟨vs, []⟩) (fun r s' => ∃ v av σ', r = .ok (.ret v) ∧ av.rel c v ∧ Q av σ' ∧ Rs c F σ' s') s := by
  subst f2
  have hold : ∀ b o, c.base.get? b = some o → s.heap.get? b = some o := fun b o e => hs.fix b o (hs.base b o e)
  unfold parsOk at hok
  simp only [Bool.and_eq_true, beq_iff_eq] at hok
  obtain ⟨⟨⟨hk1, hk2⟩, hk3⟩, hk4⟩ := hok
  have hlen : vs.length = ns.length := by rw [← VsRel.length hv, hl]
  have kind : ∀ x ∈ ns, fd.scope.names.lookup x = some .local ∨ fd.scope.names.lookup x = some .cell := fun x hx => by
    have := List.all_eq_true.mp hk1 x hx
    simpa only [Bool.or_eq_true, beq_iff_eq] using this
  have keyin : ∀ x ∈ ns.zip vs, x.1 ∈ ns := fun x hx => (List.of_mem_zip hx).1
  refine codeAny_call_cells (fd := fd) (body := body) (binds := ns.zip vs) (by have := ha.dep; show A.depth < 1000; lia) (hold a o e2) e3 (c.nolimit.keeps hold) (e4.keeps hold) f1 (hb vs hlen) f3 (fun x hx => ?_) (fun s₁ x => ?_) hk2 hk3 hk4
  · rcases kind x.1 (keyin x hx) with q | q
    · exact .inl q
    · exact .inr ⟨q, cellsFrom_look _ _ _ (.inl q)⟩
  · obtain ⟨⟨⟨h', tk, rfl⟩, xns, xkeep, xfresh⟩, xcell, xapart, xabove⟩ := x
    have lt : ∀ b o, s.heap.get? b = some o → b < s.heap.objs.size := fun b o e => Heap.lt_size e
    have ltF : ∀ b, (F b).isSome = true → b < s.heap.objs.size := fun b e => by
      obtain ⟨o, e⟩ := Option.isSome_iff_exists.mp e
      exact lt b o (hs.fix b o e)
    have ltσ : ∀ b ∈ σ.map (·.1), b < s.heap.objs.size := fun b e => by
      obtain ⟨o, e⟩ := hs.keyLive e
      exact lt b o e
    have noF : ∀ b, s.heap.objs.size ≤ b → F b = none := fun b hb => by
      cases e : F b with
      | none => rfl
      | some o => exact absurd (ltF b (by rw [e]; rfl)) (Nat.not_lt.mpr hb)
    have noσ : ∀ b, s.heap.objs.size ≤ b → b ∉ σ.map (·.1) := fun b hb q => absurd (ltσ b q) (Nat.not_lt.mpr hb)
    have hs1 : Rs c F σ { s with heap := h', toks := tk } := hs.keeps xkeep
    have rel := bind_rel (c := c) (kindOf := (callEnvC fd s.heap.objs.size a).kindOf) ns args vs (fun _ => none) (fun _ => none) (fun _ => none) hl hv (fun _ _ e => by cases e)
    have st : St c F σ (callEnvC fd s.heap.objs.size a) (callEnvC fd s.heap.objs.size a).cells (bindA (ns.zip args) fun _ => none) { s with heap := h', toks := tk } := by
      refine ⟨hs1, ⟨⟨_, xns, fun x v hx k => (rel x v hx).1 k⟩, fun x v hx => ?_, noF _ (Nat.le_refl _), noσ _ (Nat.le_refl _), ?_, fun x b hx => ?_, fun x y b hx hy => ?_⟩⟩
      · have hin : x ∈ ns := by
          rcases bindA_key ns args _ x v hx with q | q
          · exact q
          · cases q
        rcases kind x hin with q | q
        · exact .inl q
        · right
          have kx : (callEnvC fd s.heap.objs.size a).kindOf x = some .cell := q
          obtain ⟨vv, e5, e6⟩ := (rel x v hx).2 (by rw [kx]; decide)
          obtain ⟨b, hb'⟩ := Option.isSome_iff_exists.mp (cellsFrom_look (x := x) fd.scope.names (s.heap.objs.size + 1) [] (.inl q))
          obtain ⟨o', g1, g2⟩ := xcell x b hb'
          exact ⟨b, vv, o', .inl kx, hb', g1, by rw [g2, e5], e6, .inr hb'⟩
      · obtain ⟨b, o', g1, g2⟩ := hg
        exact Nat.le_trans g2 (ltF b (by rw [g1]; rfl))
      · have := xabove x b (mem_of_lookup hx)
        have hb : s.heap.objs.size ≤ b := Nat.le_of_lt this
        refine ⟨noF b hb, noσ b hb, Nat.ne_of_gt this, ?_⟩
        obtain ⟨o', g1, g2⟩ := xcell x b hx
        exact ⟨o', _, g1, g2⟩
      · exact name_of_addr xapart (mem_of_lookup hx) (mem_of_lookup hy)
    have envok : EnvS fd.scope (callEnvC fd s.heap.objs.size a) (callEnvC fd s.heap.objs.size a).cells := by
      refine ⟨⟨hk4, fun _ e => e, fun _ e => e, fun x e => ⟨e, ?_⟩, f4, f5⟩, rfl⟩
      obtain ⟨b, hb'⟩ := Option.isSome_iff_exists.mp (cellsFrom_look (x := x) fd.scope.names (s.heap.objs.size + 1) [] (.inl e))
      exact ⟨b, hb', hb'⟩
    have ha' : AOk n (A.deeper (callEnvC fd s.heap.objs.size a)) := ⟨ha.hd, by have := ha.dep; show A.depth + 1 + n ≤ 900; lia, by have := ha.un; show A.units + 3 + 20 * n ≤ 9000; lia⟩
    refine wpAny_mono (h _ F _ _ _ ha' envok st) (fun fl s2 => ex4 fun σ2 m2 h2 hs2 => ?_) fun _ _ x => x.elim
    rcases h2 with ⟨rfl, σ3, q1, q2⟩ | ⟨af, r, h2⟩
    · exact ⟨_, .none, σ3, rfl, rfl, q2, (hs2.sub q1).r⟩
    · cases af with
      | brk => exact h2.elim
      | cont => exact h2.elim
      | ret v =>
        obtain ⟨vv, rfl, r⟩ := r
        obtain ⟨σ3, q1, q2⟩ := h2
        exact ⟨_, v, σ3, rfl, r, q2, (hs2.sub q1).r⟩
theorem t_def {f f' : Str} {params : Arguments} {body : List Stmt} {scope : Scope} {ns : List Str} {args : List AV} {Q : AV → Hp → Prop} (hd : defOf f = some ⟨f', params, body, scope⟩)
    (hb : ∀ pm code doc (vs : List Value), vs.length = ns.length → bindArgs (docDef f params body scope pm code doc) ⟨vs, []⟩ = pure (ns.zip vs))
    (hok : parsOk scope ns = true) (hl : ns.length = args.length)
    (h : TS c n scope σ (bindA (ns.zip args) fun _ => none) body (retN Q) (retR Q)) : TC c (n + 1) (.glob f) args σ Q := fun A F s fv vs ha hg hs hf hv => by
  obtain ⟨a, o, pm, code, doc, e1, e2, e3, e4⟩ := c.fn f _ hd
  have : fv = .ref a := Option.some.inj (hf.symm.trans e1)
  subst this
  refine wpAny_call (codeAny_mono (def_core ha hg hs hv e2 e3 e4 rfl rfl rfl rfl rfl (hb pm code doc) hok hl h) fun r s' hx => ?_)
  obtain ⟨v, av, σ', h1, h2, h3, h4⟩ := hx
  subst h1
  exact ⟨av, σ', h2, h3, h4⟩
end
section
variable {c : Cx} {n : Nat} {sc : Scope} {σ σ' : Hp} {m m' : Lm}

/-! stores into names -/
theorem St.store {F : Fx} {env : Env} {ow : List (Str × Addr)} {s : Shared} {x : Str} {a : AV} {v : Value} {h' : Heap} {tk : Nat} {mm : Str → Option Value} (hs : St c F σ env ow m s)
    (hmm : ∀ x v, m x = some v → env.kindOf x = some .local → ∃ vv, mm x = some vv ∧ v.rel c vv) (hr : a.rel c v) (hk : env.kindOf x = some .local)
    (hn : h'.Ns env.locals (fun y => if y = x then some v else mm y)) (hb : Heap.SameBut env.locals s.heap h') : St c F σ env ow (mput m x a) { s with heap := h', toks := tk } := by
  have keep : ∀ b o, b ≠ env.locals → s.heap.get? b = some o → h'.get? b = some o := fun b o q e => hb.extBut b o q e
  have fr : ∀ b o, F b = some o → b ≠ env.locals := fun b o e q => by rw [q, hs.f.free] at e; cases e
  refine ⟨⟨hs.r.base, fun b o e => keep b o (fr b o e) (hs.r.fix b o e), fun p hp => ?_, hs.r.nd, hs.r.os, hs.r.gens⟩, ⟨⟨_, hn, fun y u hy k => ?_⟩, fun y u hy => ?_, hs.f.free, hs.f.off, hs.f.above, fun y b hp => ?_, hs.f.ownd⟩⟩
  · obtain ⟨h1, ob, h2, h3⟩ := hs.r.cell p hp
    exact ⟨h1, ob, keep _ _ (fun q => hs.f.off (q ▸ List.mem_map_of_mem hp)) h2, h3⟩
  · unfold mput at hy
    by_cases e : y = x
    · rw [if_pos e] at hy; cases hy
      exact ⟨v, by rw [if_pos e], hr⟩
    · rw [if_neg e] at hy
      obtain ⟨vv, e1, e2⟩ := hmm y u hy k
      exact ⟨vv, by rw [if_neg e]; exact e1, e2⟩
  · unfold mput at hy
    by_cases e : y = x
    · rw [e]; exact .inl hk
    · rw [if_neg e] at hy
      rcases hs.f.cl y u hy with q | ⟨a, vv, o, q1, q2, q3, q4, q5, q6⟩
      · exact .inl q
      · refine .inr ⟨a, vv, o, q1, q2, keep _ _ ?_ q3, q4, q5, q6⟩
        rcases q6 with q6 | q6
        · exact fr _ _ q6
        · exact (hs.f.owd _ _ q6).2.2.1
  · obtain ⟨a1, a2, a3, o, v, a4, a5⟩ := hs.f.owd y b hp
    exact ⟨a1, a2, a3, o, v, keep _ _ a3 a4, a5⟩
theorem St.storeC {F : Fx} {env : Env} {ow : List (Str × Addr)} {s : Shared} {x : Str} {a : AV} {v : Value} {b : Addr} {h' : Heap} (hs : St c F σ env ow m s)
    (hr : a.rel c v) (hk : env.kindOf x = some .cell) (hcc : env.cells.lookup x = some b) (hc : ow.lookup x = some b)
    (hn : h'.IsCell b (some v)) (hb : Heap.SameBut b s.heap h') : St c F σ env ow (mput m x a) { s with heap := h' } := by
  obtain ⟨b1, b2, b3, _⟩ := hs.f.owd x b hc
  have keep : ∀ d o, d ≠ b → s.heap.get? d = some o → h'.get? d = some o := fun d o q e => hb.extBut d o q e
  have fr : ∀ d o, F d = some o → d ≠ b := fun d o e q => by rw [q, b1] at e; cases e
  obtain ⟨oc, hoc1, hoc2⟩ := hn
  refine ⟨⟨hs.r.base, fun d o e => keep d o (fr d o e) (hs.r.fix d o e), fun p hp => ?_, hs.r.nd, hs.r.os, hs.r.gens⟩, ⟨?_, fun y u hy => ?_, hs.f.free, hs.f.off, hs.f.above, fun y d hp => ?_, hs.f.ownd⟩⟩
  · obtain ⟨h1, ob, h2, h3⟩ := hs.r.cell p hp
    exact ⟨h1, ob, keep _ _ (fun q => b2 (q ▸ List.mem_map_of_mem hp)) h2, h3⟩
  · obtain ⟨mm, h1, h2⟩ := hs.f.ns
    refine ⟨mm, h1.sameBut hb (Ne.symm b3), fun y u hy k => h2 y u ?_ k⟩
    unfold mput at hy
    by_cases e : y = x
    · rw [e, hk] at k; cases k
    · rw [if_neg e] at hy; exact hy
  · unfold mput at hy
    by_cases e : y = x
    · rw [if_pos e] at hy; cases hy
      subst e
      exact .inr ⟨b, v, oc, .inl hk, hcc, hoc1, hoc2, hr, .inr hc⟩
    · rw [if_neg e] at hy
      rcases hs.f.cl y u hy with q | ⟨d, vv, o, q1, q2, q3, q4, q5, q6⟩
      · exact .inl q
      · refine .inr ⟨d, vv, o, q1, q2, keep _ _ ?_ q3, q4, q5, q6⟩
        rcases q6 with q6 | q6
        · exact fr _ _ q6
        · exact fun q => e (hs.f.ownd _ _ _ q6 (q ▸ hc))
  · obtain ⟨a1, a2, a3, o, v', a4, a5⟩ := hs.f.owd y d hp
    by_cases q : d = b
    · subst q; exact ⟨a1, a2, a3, oc, _, hoc1, hoc2⟩
    · exact ⟨a1, a2, a3, o, v', keep _ _ q a4, a5⟩

/-- a name of the frame that may be stored -/
noncomputable def stOk (sc : Scope) (x : Str) : Bool := sc.names.lookup x == some .local
theorem store_run {F : Fx} {A : Around} {env : Env} {ow : List (Str × Addr)} {s : Shared} {x : Str} {a : AV} {v : Value} (hk : stOk sc x = true) (he : EnvOk sc env ow) (hs : St c F σ env ow m s) (hr : a.rel c v) :
    wpAny (model c.prog c.w) A (storeName env x v) (fun _ s' => St c F σ env ow (mput m x a) s') (fun _ _ => False) s := by
  obtain ⟨mm, h1, h2⟩ := hs.f.ns
  unfold stOk at hk
  have hl := he.lo x (beq_iff_eq.mp hk)
  exact wpAny_storeName_local hl h1 (fun h' hn hb => hs.store h2 hr hl hn hb) (by rw [he.kind]; rfl)

/-! targets -/
noncomputable abbrev PA (c : Cx) (Q : Hp → Lm → Prop) (F : Fx) (env : Env) (ow : List (Str × Addr)) (_ : Unit) (s : Shared) : Prop := ∃ σ' m', Q σ' m' ∧ St c F σ' env ow m' s
noncomputable abbrev PU (c : Cx) (Q : Hp → Prop) (F : Fx) (env : Env) (ow : List (Str × Addr)) (m : Lm) (_ : Unit) (s : Shared) : Prop := ∃ σ', Q σ' ∧ St c F σ' env ow m s
noncomputable def TA (c : Cx) (n : Nat) (sc : Scope) (σ : Hp) (m : Lm) (t : Expr) (a : AV) (Q : Hp → Lm → Prop) : Prop :=
  ∀ A F env ow s v, AOk n A → EnvOk sc env ow → St c F σ env ow m s → a.rel c v →
    wpAny (model c.prog c.w) A (assign t env v) (PA c Q F env ow) (fun _ _ => False) s
noncomputable def TAs (c : Cx) (n : Nat) (sc : Scope) : Hp → Lm → List Expr → List AV → (Hp → Lm → Prop) → Prop
  | σ, m, [], [], Q => Q σ m
  | σ, m, t :: ts, a :: as, Q => TA c n sc σ m t a fun σ' m' => TAs c n sc σ' m' ts as Q
  | _, _, _, _, _ => False
theorem as_nil {Q : Hp → Lm → Prop} (h : Q σ m) : TAs c n sc σ m [] [] Q := h
theorem as_cons {t : Expr} {ts : List Expr} {a : AV} {as : List AV} {Q : Hp → Lm → Prop} (h : TA c n sc σ m t a fun σ' m' => TAs c n sc σ' m' ts as Q) : TAs c n sc σ m (t :: ts) (a :: as) Q := h
theorem TA.mono {t : Expr} {a : AV} {Q Q' : Hp → Lm → Prop} (h : TA c n sc σ m t a Q) (hq : ∀ σ' m', Q σ' m' → Q' σ' m') : TA c n sc σ m t a Q' :=
  fun A F env ow s v ha he hs hv => wpAny_mono (h A F env ow s v ha he hs hv) (fun _ _ => ex4 fun σ' m' h2 h3 => ⟨σ', m', hq _ _ h2, h3⟩) fun _ _ x => x
theorem a_name {x : Str} {p : Pos} {a : AV} {Q : Hp → Lm → Prop} (h : Q σ (mput m x a)) (hk : stOk sc x = true := by with_unfolding_all exact rfl) : TA c n sc σ m (.Name x p) a Q :=
  fun A F env ow s v ha he hs hv => wpAny_assign_Name (wpAny_mono (store_run (A := A) hk he hs hv) (fun _ s1 hs1 => ⟨_, _, h, hs1⟩) fun _ _ x => x)

/-- a store into a place -/
noncomputable def TSet (c : Cx) (n : Nat) (σ : Hp) (o i v : AV) (Q : Hp → Prop) : Prop :=
  ∀ A F env ow m s ov iv vv, AOk n A → St c F σ env ow m s → o.rel c ov → i.rel c iv → v.rel c vv →
    wpAny (model c.prog c.w) A (setItem ov iv vv) (PU c Q F env ow m) (fun _ _ => False) s
noncomputable def notSlice (e : Expr) : Bool := !Nat.beq (ek e) 2
theorem a_sub {o i : Expr} {p : Pos} {a : AV} {Q : Hp → Lm → Prop} (h : TE c n sc σ m o fun ov σ1 => TE c n sc σ1 m i fun iv σ2 => TSet c n σ2 ov iv a fun σ3 => Q σ3 m) : TA c n sc σ m (.Subscript o i p) a Q :=
  fun A F env ow s v ha he hs hv => by
    rw [arm_assign_Subscript]
    refine wpAny_bind (wpAny_holding (wpAny_mono (h A F env ow s ha he hs) (fun ov s1 => PE.go fun aov σ1 r1 h1 hs1 => ?_) fun _ _ x => x.elim))
    refine wpAny_bind (wpAny_holding (wpAny_mono (h1 A F env ow s1 ha he hs1) (fun iv s2 => PE.go fun aiv σ2 r2 h2 hs2 => ?_) fun _ _ x => x.elim))
    exact wpAny_bind (wpAny_standAt (wpAny_bind (wpAny_holding (wpAny_mono (h2 A F env ow m s2 ov iv v ha hs2 r1 r2 hv) (fun _ s3 => ex3 fun σ3 h3 hs3 => wpAny_release' ⟨σ3, m, h3, hs3⟩) fun _ _ x => x))))
/-- a store into an attribute -/
noncomputable def TSetA (c : Cx) (n : Nat) (σ : Hp) (o : AV) (x : Str) (v : AV) (Q : Hp → Prop) : Prop :=
  ∀ A F env ow m s ov vv, AOk n A → St c F σ env ow m s → o.rel c ov → v.rel c vv →
    wpAny (model c.prog c.w) A (setAttr ov x vv) (PU c Q F env ow m) (fun _ _ => False) s
theorem a_attr {o : Expr} {x : Str} {p : Pos} {a : AV} {Q : Hp → Lm → Prop} (h : TE c n sc σ m o fun ov σ1 => TSetA c n σ1 ov x a fun σ3 => Q σ3 m) : TA c n sc σ m (.Attribute o x p) a Q :=
  fun A F env ow s v ha he hs hv => by
    rw [arm_assign_Attribute]
    refine wpAny_bind (wpAny_holding (wpAny_mono (h A F env ow s ha he hs) (fun ov s1 => PE.go fun aov σ1 r1 h1 hs1 => ?_) fun _ _ x => x.elim))
    exact wpAny_bind (wpAny_standAt (wpAny_bind (wpAny_holding (wpAny_mono (h1 A F env ow m s1 ov v ha hs1 r1 hv) (fun _ s3 => ex3 fun σ3 h3 hs3 => wpAny_release' ⟨σ3, m, h3, hs3⟩) fun _ _ x => x))))

theorem asEach_cons {t : Expr} {ts : List Expr} {env : Env} (h : noStar t = true) : assignEach (t :: ts) env = (false, assign t env) :: assignEach ts env := by
  cases t <;> first | exact (Bool.false_ne_true h).elim | rfl
theorem each_map : ∀ (ts : List Expr) {env : Env}, ts.all noStar = true → (assignEach ts env).map (·.2) = ts.map (fun t => assign t env) ∧ (assignEach ts env).findIdx? (·.1) = none ∧ (assignEach ts env).length = ts.length := by
  intro ts
  induction ts with
  | nil => intro env _; exact ⟨rfl, rfl, rfl⟩
  | cons t ts ih =>
    intro env h
    rw [List.all_cons, Bool.and_eq_true] at h
    rw [asEach_cons h.1]
    obtain ⟨a, b, d⟩ := ih (env := env) h.2
    refine ⟨by rw [List.map_cons, List.map_cons, a], ?_, by simp [d]⟩
    rw [List.findIdx?_cons, b]; rfl
theorem targets_run : ∀ (ts : List Expr) {as : List AV} {vs : List Value} {σ : Hp} {m : Lm} {Q : Hp → Lm → Prop}, TAs c n sc σ m ts as Q → VsRel c as vs → ∀ A F env ow s, AOk n A → EnvOk sc env ow → St c F σ env ow m s →
    wpAny (model c.prog c.w) A (assignInOrder (ts.map fun t => assign t env) vs) (PA c Q F env ow) (fun _ _ => False) s := by
  intro ts
  induction ts with
  | nil =>
    intro as vs σ m Q h hv A F env ow s ha he hs
    cases as with
    | nil => cases vs with
      | nil => exact assignInOrder_nil ⟨σ, m, h, hs⟩
      | cons v vs => exact hv.elim
    | cons a as => exact h.elim
  | cons t ts ih =>
    intro as vs σ m Q h hv A F env ow s ha he hs
    cases as with
    | nil => exact h.elim
    | cons a as =>
    cases vs with
    | nil => exact hv.elim
    | cons v vs =>
    rw [List.map_cons]
    exact assignInOrder_cons (wpAny_mono (h A F env ow s v ha he hs hv.1) (fun _ s1 => ex4 fun σ1 m1 h1 hs1 => ih h1 hv.2 A F env ow s1 ha he hs1) fun _ _ x => x.elim)
/-- a tuple or a list taken apart -/
theorem a_tup {ts : List Expr} {k : Nat} {p : Pos} {t : Addr} {as : List AV} {Q : Hp → Lm → Prop} (hm : (t, .tup as) ∈ σ) (h : TAs c n sc σ m ts as Q) (hl : ts.length = as.length := by with_unfolding_all exact rfl) (hp : ts.all noStar = true := by with_unfolding_all exact rfl) : TA c n sc σ m (.Tuple ts k p) (.ref t) Q :=
  fun A F env ow s v ha he hs hv => by
    have : v = .ref t := hv
    subst this
    obtain ⟨_, ob, ho, items, nn, rfl, hr⟩ := hs.r.cell _ hm
    obtain ⟨e1, e2, e3⟩ := each_map ts (env := env) hp
    obtain ⟨mm, hmm, FF, NN, back⟩ := hs.fr
    refine unpackN_ FF NN ⟨_, ho, rfl, _, rfl⟩ ha.hd (by rw [e3, hl, VsRel.length hr, Array.length_toList]) e2 fun h' F' N' => ?_
    rw [e1]
    exact targets_run ts h hr A F env ow _ ha he (back h' s.toks F' N').2
theorem a_lst {ts : List Expr} {k : Nat} {p : Pos} {t : Addr} {as : List AV} {Q : Hp → Lm → Prop} (hm : (t, .list as) ∈ σ) (h : TAs c n sc σ m ts as Q) (hl : ts.length = as.length := by with_unfolding_all exact rfl) (hp : ts.all noStar = true := by with_unfolding_all exact rfl) : TA c n sc σ m (.Tuple ts k p) (.ref t) Q :=
  fun A F env ow s v ha he hs hv => by
    have : v = .ref t := hv
    subst this
    obtain ⟨_, ob, ho, items, nn, rfl, hr⟩ := hs.r.cell _ hm
    obtain ⟨e1, e2, e3⟩ := each_map ts (env := env) hp
    obtain ⟨mm, hmm, FF, NN, back⟩ := hs.fr
    refine kun_list FF NN ⟨_, ho, rfl, _, rfl⟩ ha.hd (by rw [e3, hl, VsRel.length hr, Array.length_toList]) e2 fun h' F' N' => ?_
    rw [e1]
    exact targets_run ts h hr A F env ow _ ha he (back h' s.toks F' N').2

/-! assignments -/
noncomputable def noComp (e : Expr) : Bool := !Nat.beq (ek e) 3
noncomputable def isTup (e : Expr) : Bool := Nat.beq (ek e) 4
theorem swapsWithSole_no {t value : Expr} {line : Nat} {env : Env} (h : noComp value = true) : swapsWithSole [t] value line env = pure false := by
  cases value <;> first | exact (Bool.false_ne_true h).elim | rfl
theorem swappedStores_no {t value : Expr} {env : Env} (h : (isTup t && isTup value) = false) : swappedStores [t] value env = pure none := by
  cases t <;> first | rfl | (cases value <;> first | rfl | (exact (Bool.false_ne_true h.symm).elim))
theorem x_assign {t value : Expr} {pos : Pos} {Qn : Hp → Lm → Prop} {Qr : AF → Hp → Lm → Prop} (h : TE c n sc σ m value fun v σ1 => TA c n sc σ1 m t v Qn)
    (hc : noComp value = true := by with_unfolding_all exact rfl) (ht : (isTup t && isTup value) = false := by with_unfolding_all exact rfl) (hst : noStar t = true := by with_unfolding_all exact rfl) : TX c n sc σ m (.Assign [t] value pos) Qn Qr :=
  fun A F env ow s ha he hs => by
    rw [arm_exec_Assign]
    rw [swapsWithSole_no hc, swappedStores_no ht]
    refine wpAny_bind (wpAny_standAt (wpAny_bind (wpAny_pure (wpAny_bind (wpAny_mono (h A F env ow s ha he.toEnvOk hs) (fun v s1 => PE.go fun av σ1 r1 h1 hs1 => ?_) fun _ _ x => x)))))
    refine wpAny_bind (wpAny_pure ?_)
    rw [asEach_cons hst]
    show wpAny _ A (do assignAll v [assign t env]; pure Flow.next) _ _ s1
    exact wpAny_bind (wpAny_mono (h1 A F env ow s1 v ha he.toEnvOk hs1 r1) (fun _ s2 => ex4 fun σ2 m2 h2 hs2 => wpAny_pure ⟨σ2, m2, .inl ⟨rfl, h2⟩, hs2⟩) fun _ _ x => x)
end
section
variable {c : Cx} {n : Nat} {sc : Scope} {σ σ' : Hp} {m m' : Lm}

/-! attributes -/
noncomputable def fget : List (Str × AV) → Str → Option AV
  | [], _ => none
  | (y, v) :: r, x => if y = x then some v else fget r x
theorem getL_of {fs : List (Str × AV)} {es : List DictEntry} {x : Str} {a : AV} (h : EsRel c fs es) (e : fget fs x = some a) : ∃ v, getL x es = some (some v) ∧ a.rel c v := by
  suffices H : ∃ d, es.find? (·.key.isStr x) = some d ∧ a.rel c d.val by
    obtain ⟨d, h1, h2⟩ := H
    exact ⟨d.val, by unfold getL; rw [h1], h2⟩
  induction fs generalizing es with
  | nil => cases e
  | cons p r ih =>
    cases es with
    | nil => exact h.elim
    | cons d es =>
      obtain ⟨⟨t, hk⟩, hv, hr⟩ := h
      unfold fget at e
      rw [List.find?_cons]
      by_cases q : p.1 = x
      · rw [if_pos q] at e
        cases e
        have : d.key.isStr x = true := by rw [hk, q]; show (x == x) = true; simp
        rw [this]
        exact ⟨d, rfl, hv⟩
      · rw [if_neg q] at e
        have : d.key.isStr x = false := by rw [hk]; show (p.1 == x) = false; simp [q]
        rw [this]
        exact ih hr e
noncomputable def plainV (a : AV) : Bool := match a with | .raw _ => false | .glob _ => false | _ => true
theorem plain_handed {a : AV} {v : Value} (h : a.rel c v) (ho : plainV a = true) : handedIn v = true := by
  cases a with
  | none => cases h; rfl
  | bool b => cases h; rfl
  | int i => obtain ⟨t, rfl⟩ := h; rfl
  | ref a => cases h; rfl
  | raw v => cases ho
  | glob n => cases ho
noncomputable def attrBase (e : Expr) : Bool := !Nat.beq (ek e) 5
theorem t_attr {value : Expr} {x : Str} {pos : Pos} {Q : AV → Hp → Prop}
    (h : TE c n sc σ m value fun ov σ1 => ∃ b C dx fs v, ov = .ref b ∧ (C = c.cD ∨ C = c.cE) ∧ (b, AO.inst C dx) ∈ σ1 ∧ (dx, AO.attrs fs) ∈ σ1 ∧ fget fs x = some v ∧ plainV v = true ∧ Q v σ1)
    (hx : attrNames.contains x = true := by with_unfolding_all exact rfl) (hb : attrBase value = true := by with_unfolding_all exact rfl) : TE c n sc σ m (.Attribute value x pos) Q :=
  fun A F env ow s ha he hs => by
    refine Attribute_any_ (wpAny_mono (h A F env ow s ha he hs) (fun ov s1 => PE.go fun aov σ1 r1 hx1 hs1 => ?_) fun _ _ x => x) ?_
    · obtain ⟨b, C, dx, fs, v, h1, h2, h3, h4, h5, h6, h7⟩ := hx1
      subst h1
      have : ov = .ref b := r1
      subst this
      obtain ⟨_, ob, ho, rfl⟩ := hs1.r.cell _ h3
      obtain ⟨_, od, hod, es, nn, rfl, hes⟩ := hs1.r.cell _ h4
      obtain ⟨vv, e1, e2⟩ := getL_of hes h5
      obtain ⟨k1, k2, k3, k4, k5⟩ := c.cls C h2
      obtain ⟨g1, g2, g3⟩ := c.att C h2 x hx
      obtain ⟨mm, hmm, FF, NN, back⟩ := hs1.fr
      exact get_own FF c.kin (ox := instObj C dx) (es := es) (n := nn) ⟨ho, rfl, rfl, hod⟩ g1 k3 g2 rfl e1 (plain_handed e2 h6) ⟨v, σ1, e2, h7, hs1.tok⟩
    · cases value <;> first | exact (Bool.false_ne_true hb).elim | rfl

noncomputable def fput : List (Str × AV) → Str → AV → List (Str × AV)
  | [], x, v => [(x, v)]
  | (y, w) :: r, x, v => if y = x then (y, v) :: r else (y, w) :: fput r x v
theorem fput_rel {x : Str} {a : AV} {v : Value} {hsh : Int} {t : Tok} (hr : a.rel c v) : ∀ {fs : List (Str × AV)} {es : List DictEntry}, EsRel c fs es → EsRel c (fput fs x a) (putL x hsh (.str x t) v es) := by
  intro fs
  induction fs with
  | nil => intro es h; cases es with
    | nil => exact ⟨⟨t, rfl⟩, hr, trivial⟩
    | cons d es => exact h.elim
  | cons p r ih =>
    intro es h
    cases es with
    | nil => exact h.elim
    | cons d es =>
    obtain ⟨⟨t', hk⟩, hv, hrr⟩ := h
    show EsRel c (if p.1 = x then _ else _) (if d.key.isStr x then _ else _)
    by_cases q : p.1 = x
    · have : d.key.isStr x = true := by rw [hk, q]; show (x == x) = true; simp
      rw [if_pos q, if_pos this]
      exact ⟨⟨t', hk⟩, hr, hrr⟩
    · have : d.key.isStr x = false := by rw [hk]; show (p.1 == x) = false; simp [q]
      rw [if_neg q, if_neg (by rw [this]; exact Bool.false_ne_true)]
      exact ⟨⟨t', hk⟩, hv, ih hrr⟩
theorem EsRel.length : ∀ {fs : List (Str × AV)} {es : List DictEntry}, EsRel c fs es → fs.length = es.length := by
  intro fs
  induction fs with
  | nil => intro es h; cases es with
    | nil => rfl
    | cons d es => exact h.elim
  | cons p r ih => intro es h; cases es with
    | nil => exact h.elim
    | cons d es => exact congrArg (· + 1) (ih h.2.2)
theorem norefs : ∀ {fs : List (Str × AV)} {es : List DictEntry}, EsRel c fs es → es.any (·.refKey) = false := by
  intro fs
  induction fs with
  | nil => intro es h; cases es with
    | nil => rfl
    | cons d es => exact h.elim
  | cons p r ih =>
    intro es h
    cases es with
    | nil => exact h.elim
    | cons d es =>
    obtain ⟨⟨t, hk⟩, _, hr⟩ := h
    rw [List.any_cons, ih hr]
    unfold DictEntry.refKey
    rw [hk]; rfl
theorem getL_some {fs : List (Str × AV)} {es : List DictEntry} (x : Str) (h : EsRel c fs es) : (getL x es).isSome = true := by
  unfold getL
  split
  · rfl
  · rw [norefs h]; rfl

theorem upd_news {d : Addr} {o o' : Obj} : ∀ {l : List (Addr × Obj)}, (l.map (·.1)).Nodup → (d, o) ∈ l → W.Upd d o o' l (l.map fun p => if p.1 = d then (d, o') else p) := by
  intro l
  induction l with
  | nil => intro _ hm; cases hm
  | cons p r ih =>
    intro hn hm
    rw [List.map_cons] at hn ⊢
    obtain ⟨n1, n2⟩ := List.nodup_cons.mp hn
    rcases List.mem_cons.mp hm with e | hm
    · subst e
      rw [if_pos rfl]
      have hne : ∀ q ∈ r, q.1 ≠ d := fun q hq e => n1 (e ▸ List.mem_map_of_mem (f := (·.1)) hq)
      have : (r.map fun p => if p.1 = d then (d, o') else p) = r := by
        have : ∀ q ∈ r, (if q.1 = d then (d, o') else q) = q := fun q hq => if_neg (hne q hq)
        rw [List.map_congr_left this]; simp
      rw [this]
      exact .head hne
    · have hne : p.1 ≠ d := fun e => n1 (e ▸ List.mem_map_of_mem (f := (·.1)) hm)
      rw [if_neg hne]
      exact .tail hne (ih n2 hm)
theorem nwAll_nodup {L : Addr} {h : Heap} : ((nwAll c L h).map (·.1)).Nodup := by
  unfold nwAll
  generalize h.objs.size = k
  have : ∀ (l : List Nat), l.Nodup → ((l.filterMap fun b => if b = L ∨ (c.base.get? b).isSome then none else (h.get? b).map fun o => (b, o)).map (·.1)).Nodup := by
    intro l hl
    induction l with
    | nil => exact List.nodup_nil
    | cons x r ih =>
      obtain ⟨h1, h2⟩ := List.nodup_cons.mp hl
      rw [List.filterMap_cons]
      split
      · exact ih h2
      · rename_i y hy
        rw [List.map_cons]
        refine List.nodup_cons.mpr ⟨fun q => ?_, ih h2⟩
        have hyx : y.1 = x := by
          split at hy
          · cases hy
          · cases g : h.get? x with
            | none => rw [g] at hy; cases hy
            | some o => rw [g] at hy; cases hy; rfl
        obtain ⟨z, hz, e⟩ := List.mem_map.mp q
        obtain ⟨w, hw, e'⟩ := List.mem_filterMap.mp hz
        have hzw : z.1 = w := by
          split at e'
          · cases e'
          · cases g : h.get? w with
            | none => rw [g] at e'; cases e'
            | some o => rw [g] at e'; cases e'; rfl
        exact h1 (by rw [← hyx, ← e, hzw]; exact hw)
  exact this _ List.nodup_range

theorem fput_len (x : Str) (v : AV) : ∀ (l : List (Str × AV)), (fput l x v).length ≤ l.length + 1 := by
  intro l
  induction l with
  | nil => exact Nat.le_refl _
  | cons p r ih =>
    show (if p.1 = x then (p.1, v) :: r else p :: fput r x v).length ≤ _
    split
    · exact Nat.le_succ _
    · exact Nat.succ_le_succ ih
theorem set_attr {b C dx : Addr} {fs : List (Str × AV)} {x : Str} {v : AV} {Q : Hp → Prop} (hC : C = c.cD ∨ C = c.cE) (hb : (b, AO.inst C dx) ∈ σ) (hu : Upd σ dx (.attrs fs) (.attrs (fput fs x v)) σ') (h : Q σ')
    (hx : attrNames.contains x = true := by with_unfolding_all exact rfl) (hz : fs.length ≤ 900 := by with_unfolding_all exact Nat.le_of_ble_eq_true rfl) : TSetA c n σ (.ref b) x v Q := fun A F env ow m s ov vv ha hs hov hv => by
  have : ov = .ref b := hov
  subst this
  obtain ⟨_, ob, ho, rfl⟩ := hs.r.cell _ hb
  have hdx := hu.mem
  obtain ⟨hFdx, od, hod, es, nn, rfl, hes⟩ := hs.r.cell _ hdx
  obtain ⟨k1, k2, k3, k4, k5⟩ := c.cls C hC
  obtain ⟨a1, a2, a3⟩ := c.att C hC x hx
  obtain ⟨mm, hmm, FF, NN, back⟩ := hs.fr
  have hdL : dx ≠ env.locals := fun q => hs.f.off (q ▸ List.mem_map_of_mem (f := (·.1)) hdx)
  have hbase : c.base.get? dx = none := by
    cases e : c.base.get? dx with
    | none => rfl
    | some o => rw [hs.r.base _ _ e] at hFdx; cases hFdx
  have hrel := fput_rel (c := c) (x := x) (hsh := PyData.keyHash c.w.params x) (t := s.toks + 1) hv hes
  refine set_dict FF c.kin NN (ox := instObj C dx) (es := es) (n := nn) ⟨ho, rfl, rfl, hod⟩ rfl k5 k4 a3 k3 (getL_some x hes) rfl (upd_news nwAll_nodup (mem_nwAll hod hdL hbase)) ?_ fun h' F' N' => ?_
  · have := hrel.length
    have := fput_len x v fs
    lia
  · have hk : ∀ d o, d ≠ dx → d ≠ env.locals → s.heap.get? d = some o → h'.get? d = some o := fun d o hd hL e => by
      cases hbb : c.base.get? d with
      | some o' =>
        have := hs.r.fix d o' (hs.r.base d o' hbb)
        rw [e] at this; cases this
        exact F'.keep d o hbb
      | none =>
        have hm := mem_nwAll (c := c) e hL hbb
        exact (N' (d, o) (List.mem_map.mpr ⟨(d, o), hm, by rw [if_neg hd]⟩)).1
    have hd' := (N' (dx, _) (List.mem_map.mpr ⟨(dx, dictOf es nn), mem_nwAll hod hdL hbase, by rw [if_pos rfl]⟩)).1
    exact ⟨σ', h, hs.updN hu hmm F'.ns hk hd' ⟨_, _, rfl, hrel⟩⟩
end
section
variable {c : Cx} {n : Nat} {sc : Scope} {σ σ' : Hp} {m m' : Lm}

/-! displays -/
theorem t_tuple {es : List Expr} {k : Nat} {pos : Pos} {Q : AV → Hp → Prop} (h : TEs c n sc m σ es fun vs σ' => ∀ t, Q (.ref t) ((t, .tup vs) :: σ')) (hp : es.all noStar = true := by with_unfolding_all exact rfl) (hz : es.length ≤ 1000 := by decide) : TE c n sc σ m (.Tuple es k pos) Q :=
  fun A F env ow s ha he hs => by
    refine wpAny_Tuple (wpAny_mono (args_run (pos := pos) es hp h A F env ow s ha he hs) (fun vs s1 => PAr.go fun avs σ1 r1 h1 hs1 => ⟨?_, ex_ref (h1 _) (hs1.push (ao := .tup avs) ⟨_, _, rfl, r1.2⟩)⟩) fun _ _ x => x)
    rw [← VsRel.length r1.2, r1.1, sizeLine_eq]; lia
theorem t_list {es : List Expr} {pos : Pos} {Q : AV → Hp → Prop} (h : TEs c n sc m σ es fun vs σ' => ∀ t, Q (.ref t) ((t, .list vs) :: σ')) (hp : es.all noStar = true := by with_unfolding_all exact rfl) (hz : es.length ≤ 1000 := by decide) : TE c n sc σ m (.List es pos) Q :=
  fun A F env ow s ha he hs => by
    refine wpAny_List (wpAny_mono (args_run (pos := pos) es hp h A F env ow s ha he hs) (fun vs s1 => PAr.go fun avs σ1 r1 h1 hs1 => ⟨?_, ex_ref (h1 _) (hs1.push (ao := .list avs) ⟨_, _, rfl, r1.2⟩)⟩) fun _ _ x => x)
    rw [← VsRel.length r1.2, r1.1, sizeLine_eq]; lia

/-! places -/
noncomputable def TIdx (c : Cx) (n : Nat) (σ : Hp) (o i : AV) (Q : AV → Hp → Prop) : Prop :=
  ∀ A F env ow m s ov iv value slice, AOk n A → St c F σ env ow m s → o.rel c ov → i.rel c iv → notSlice slice = true →
    wpAny (model c.prog c.w) A (subscriptTail value slice ov iv) (PE c Q F env ow m) (fun _ _ => False) s
theorem t_idx {value slice : Expr} {pos : Pos} {Q : AV → Hp → Prop} (h : TE c n sc σ m value fun ov σ1 => TE c n sc σ1 m slice fun iv σ2 => TIdx c n σ2 ov iv Q) (hn : notSlice slice = true := by with_unfolding_all exact rfl) : TE c n sc σ m (.Subscript value slice pos) Q :=
  fun A F env ow s ha he hs => Subscript_ (wpAny_mono (h A F env ow s ha he hs) (fun ov s1 => PE.go fun aov σ1 r1 h1 hs1 => wpAny_mono (h1 A F env ow s1 ha he hs1) (fun iv s2 => PE.go fun aiv σ2 r2 h2 hs2 => h2 A F env ow m s2 ov iv value slice ha hs2 r1 r2 hn) fun _ _ x => x.elim) fun _ _ x => x.elim)
theorem subscripted_plain {slice : Expr} {o i : Value} (h : notSlice slice = true) : subscripted slice false o i = operate [o, i] (getItem o i) := by
  cases slice <;> first | exact (Bool.false_ne_true h).elim | rfl
theorem i_list {l : Addr} {vs : List AV} {k : Int} {v : AV} {Q : AV → Hp → Prop} (hm : (l, .list vs) ∈ σ) (hk : 0 ≤ k) (hk2 : k < 2 ^ 62) (hv : vs[k.toNat]? = some v) (h : Q v σ) : TIdx c n σ (.ref l) (.int k) Q :=
  fun A F env ow m s ov iv value slice ha hs ho hi hn => by
    obtain ⟨t, hi⟩ := hi
    have : ov = .ref l := ho
    subst this hi
    obtain ⟨_, ob, hob, items, nn, rfl, hr⟩ := hs.r.cell _ hm
    obtain ⟨x, e1, e2⟩ := hr.get _ hv
    have hl : s.heap.IsList l items := ⟨_, hob, rfl, nn, rfl⟩
    exact tail_any hl.typeIs slot_list_getitem.lookup (wpAny_getItem_list hl hk (by lia) (by simpa using e1) ⟨v, σ, e2, h, hs⟩) (subscripted_plain hn)
theorem seqIndex_nat {k : Int} {n : Nat} (h : 0 ≤ k) (hlt : k.toNat < n) : seqIndex? k n = some k.toNat := by
  have h1 : ¬ k < 0 := by lia
  have h2 : k < n := by lia
  simp [seqIndex?, h1, h, h2]
theorem i_tup {l : Addr} {vs : List AV} {k : Int} {v : AV} {Q : AV → Hp → Prop} (hm : (l, .tup vs) ∈ σ) (hk : 0 ≤ k) (hk2 : k < 2 ^ 62) (hv : vs[k.toNat]? = some v) (h : Q v σ) : TIdx c n σ (.ref l) (.int k) Q :=
  fun A F env ow m s ov iv value slice ha hs ho hi hn => by
    obtain ⟨t, hi⟩ := hi
    have : ov = .ref l := ho
    subst this hi
    obtain ⟨_, ob, hob, items, nn, rfl, hr⟩ := hs.r.cell _ hm
    obtain ⟨x, e1, e2⟩ := hr.get _ hv
    have hl : IsTup s.heap l items := ⟨_, hob, rfl, nn, rfl⟩
    have hlt : k.toNat < items.size := by
      have := (List.getElem?_eq_some_iff.mp e1).1
      simpa using this
    exact tail_any (T := "tuple") ⟨_, hob, rfl⟩ PySem.F.slot_tuple_getitem.lookup (getItem_tuple hl (by lia) (by lia) (j := k.toNat) (seqIndex_nat hk hlt) (by simpa using e1) ⟨v, σ, e2, h, hs⟩) (subscripted_plain hn)
/-! cuts -/
noncomputable def cut (vs : List AV) (x y : Int) : List AV := (vs.drop x.toNat).take (y.toNat - x.toNat)
theorem clip_nat {n : Nat} {x : Int} (h : 0 ≤ x) : clipAt n x = min x.toNat n := by
  obtain ⟨k, rfl⟩ := Int.eq_ofNat_of_zero_le h
  rw [clipAt_nat]; simp
theorem pick_eq {items : Array Value} {x y : Int} (hx : 0 ≤ x) (hy : 0 ≤ y) : (slicePick items (some x) (some y) none).toList = (items.toList.drop x.toNat).take (y.toNat - x.toNat) := by
  rw [slicePick_plain]
  simp only [Option.elim_some, clip_nat hx, clip_nat hy, List.toList_toArray]
  by_cases h : x.toNat ≤ items.size
  · rw [Nat.min_eq_left h]
    by_cases h2 : y.toNat ≤ items.size
    · rw [Nat.min_eq_left h2]
    · rw [Nat.min_eq_right (by lia), List.take_of_length_le (by simp), List.take_of_length_le (by simp; lia)]
  · rw [List.drop_of_length_le (by simp; lia), List.drop_of_length_le (by simp; lia)]; simp
theorem part_int {i : Int} {v : Value} (h : (AV.int i).rel c v) : IsPart v (some i) := by obtain ⟨t, rfl⟩ := h; exact .int i t
theorem t_cut {value lo hi : Expr} {p pos : Pos} {Q : AV → Hp → Prop} (h : TE c n sc σ m value fun ov σ1 => TE c n sc σ1 m lo fun a σ2 => TE c n sc σ2 m hi fun b σ3 =>
      ∃ l vs x y, ov = .ref l ∧ a = .int x ∧ b = .int y ∧ (l, AO.list vs) ∈ σ3 ∧ 0 ≤ x ∧ 0 ≤ y ∧ vs.length ≤ 100000 ∧ ∀ D, Q (.ref D) ((D, .list (cut vs x y)) :: σ3)) :
    TE c n sc σ m (.Subscript value (.Slice (some lo) (some hi) none p) pos) Q :=
  fun A F env ow s ha he hs => by
    refine Subscript_ (wpAny_mono (h A F env ow s ha he hs) (fun ov s1 => PE.go fun aov σ1 r1 h1 hs1 => ?_) fun _ _ x => x.elim)
    refine wpAny_Slice (wpAny_mono (h1 A F env ow s1 ha he hs1) (fun vl s2 => PE.go fun al σ2 r2 h2 hs2 => ?_) fun _ _ x => x.elim)
    refine wpAny_mono (h2 A F env ow s2 ha he hs2) (fun vu s3 => PE.go fun au σ3 r3 hx1 hs3 => wpAny_pure ?_) fun _ _ x => x.elim
    obtain ⟨l, vs, x, y, e1, e2, e3, hm, hx, hy, hz, hq⟩ := hx1
    subst e1 e2 e3
    have : ov = .ref l := r1
    subst this
    obtain ⟨_, ob, hob, items, nn, rfl, hr⟩ := hs3.r.cell _ hm
    have hl : s3.heap.IsList l items := ⟨_, hob, rfl, nn, rfl⟩
    have hsz : items.size ≤ sizeLine := by have := hr.length; rw [sizeLine_eq]; simp at this; lia
    have hs4 : St c F σ3 env ow m { s3 with heap := s3.heap.push { cls := .type "slice", data := .fields #[vl, vu, .none] } } := hs3.keeps fun _ _ e => Heap.get?_push_of_some _ e
    refine tail_any (T := "list") (hl.push _).typeIs slot_list_getitem.lookup (wpAny_getItem_list_slice (hl.push _) (Heap.IsSliceOf.new _ _ _ _) (part_int r2) (part_int r3) .none (by intro h; cases h) ?_ hsz) rfl
    refine ex_ref (hq _) (hs4.push (ao := .list (cut vs x y)) ⟨_, _, rfl, ?_⟩)
    rw [pick_eq hx hy]
    exact (hr.drop _).take _
theorem pick_upto {items : Array Value} {y : Int} (hy : 0 ≤ y) : (slicePick items none (some y) none).toList = items.toList.take y.toNat := by
  rw [slicePick_plain]
  simp only [Option.elim_some, Option.elim_none, clip_nat hy, List.toList_toArray, List.drop_zero, Nat.sub_zero]
  by_cases h2 : y.toNat ≤ items.size
  · rw [Nat.min_eq_left h2]
  · rw [Nat.min_eq_right (by lia), List.take_of_length_le (by simp), List.take_of_length_le (by simp; lia)]
end
section
variable {c : Cx} {n : Nat} {sc : Scope} {σ σ' : Hp} {m m' : Lm}

noncomputable def aints (ns : List Int) : List AV := ns.map .int
noncomputable def abools (bs : List Bool) : List AV := bs.map .bool
theorem ints_are : ∀ {ns : List Int} {vs : List Value}, VsRel c (aints ns) vs → IntsAre vs ns := by
  intro ns
  induction ns with
  | nil => intro vs h; cases vs with
    | nil => exact .nil
    | cons v vs => exact h.elim
  | cons n ns ih =>
    intro vs h
    cases vs with
    | nil => exact h.elim
    | cons v vs =>
    obtain ⟨⟨t, e⟩, h⟩ := h
    have : v = .int n t := e
    subst this
    exact .cons n t (ih h)
theorem bools_are : ∀ {ns : List Bool} {vs : List Value}, VsRel c (abools ns) vs → LSm.BoolsAre vs ns := by
  intro ns
  induction ns with
  | nil => intro vs h; cases vs with
    | nil => exact .nil
    | cons v vs => exact h.elim
  | cons n ns ih =>
    intro vs h
    cases vs with
    | nil => exact h.elim
    | cons v vs =>
    obtain ⟨e, h⟩ := h
    have : v = .bool n := e
    subst this
    exact .cons n (ih h)

/-- the list at a cell -/
theorem St.list {F : Fx} {env : Env} {ow : List (Str × Addr)} {s : Shared} {l : Addr} {vs : List AV} (hs : St c F σ env ow m s) (hm : (l, AO.list vs) ∈ σ) :
    ∃ items nn, s.heap.get? l = some (listOf items nn) ∧ VsRel c vs items.toList ∧ s.heap.IsList l items ∧ items.size = vs.length := by
  obtain ⟨_, ob, hob, items, nn, rfl, hr⟩ := hs.r.cell _ hm
  exact ⟨items, nn, hob, hr, ⟨_, hob, rfl, nn, rfl⟩, by rw [hr.length]; simp⟩

theorem b_addl {a b : Addr} {xs ys : List AV} {Q : AV → Hp → Prop} (h1 : (a, .list xs) ∈ σ) (h2 : (b, .list ys) ∈ σ) (h : ∀ l, Q (.ref l) ((l, .list (xs ++ ys)) :: σ)) (hz : xs.length + ys.length ≤ 100000 := by (simp; done)) : TBin c n σ .Add (.ref a) (.ref b) Q :=
  fun A F env ow m s v w ha hs e1 e2 => by
    have : v = .ref a := e1
    have : w = .ref b := e2
    subst v w
    obtain ⟨i1, n1, g1, r1, l1, z1⟩ := hs.list h1
    obtain ⟨i2, n2, g2, r2, l2, z2⟩ := hs.list h2
    obtain ⟨mm, hmm, FF, NN, back⟩ := hs.fr
    refine add_arrays FF NN l1 l2 (fun h' F' N' => ?_) (by rw [z1, z2, sizeLine_eq]; lia)
    have hb := (back h' s.toks F' fun p hp => N' p (.tail _ hp)).2
    exact ex_ref (h _) (hs.newN hb (Heap.get?_none_of_le (Nat.le_refl _)) (N' _ (.head _)).1 ⟨_, _, rfl, by simpa using r1.append r2⟩)
theorem rep_rel {vs : List AV} {its : Array Value} (h : VsRel c vs its.toList) : ∀ k : Nat, VsRel c ((List.replicate k vs).flatten) ((List.replicate k its).foldl (fun x1 x2 => x1 ++ x2) #[]).toList := by
  intro k
  suffices H : ∀ (k : Nat) (acc : Array Value) (as : List AV), VsRel c as acc.toList → VsRel c (as ++ (List.replicate k vs).flatten) ((List.replicate k its).foldl (fun x1 x2 => x1 ++ x2) acc).toList by
    simpa using H k #[] [] trivial
  intro k
  induction k with
  | zero => intro acc as ha; simpa using ha
  | succ k ih =>
    intro acc as ha
    rw [List.replicate_succ, List.replicate_succ, List.foldl_cons, List.flatten_cons, ← List.append_assoc]
    exact ih _ _ (by simpa using ha.append h)
theorem b_mull {a : Addr} {xs : List AV} {k : Int} {Q : AV → Hp → Prop} (h1 : (a, .list xs) ∈ σ) (h : ∀ l, Q (.ref l) ((l, .list ((List.replicate k.toNat xs).flatten)) :: σ)) (hk : 0 ≤ k ∧ k < 1000 := by decide) (hz : 0 < xs.length ∧ xs.length ≤ 1000 := by decide) : TBin c n σ .Mult (.ref a) (.int k) Q :=
  fun A F env ow m s v w ha hs e1 e2 => by
    obtain ⟨t, e2⟩ := e2
    have : v = .ref a := e1
    subst v e2
    obtain ⟨i1, n1, g1, r1, l1, z1⟩ := hs.list h1
    obtain ⟨mm, hmm, FF, NN, back⟩ := hs.fr
    have hsz : i1.size * k.toNat ≤ 2 ^ 24 := by
      rw [z1]
      have : xs.length * k.toNat ≤ 1000 * 1000 := Nat.mul_le_mul hz.2 (by lia)
      lia
    refine mul_list FF NN g1 (by lia) (by lia) hsz (fun h' F' N' => ?_)
    have hb := (back h' s.toks F' fun p hp => N' p (.tail _ hp)).2
    refine ex_ref (h _) (hs.newN hb (Heap.get?_none_of_le (Nat.le_refl _)) (N' _ (.head _)).1 ⟨_, _, rfl, ?_⟩)
    have : i1.isEmpty = false := by rw [Array.isEmpty_eq_false_iff]; intro q; rw [q] at z1; simp at z1; lia
    rw [if_neg (by rw [this]; exact Bool.false_ne_true)]
    exact rep_rel r1 _

/-! stores into lists -/
theorem set_list {l : Addr} {xs : List AV} {k : Int} {v : AV} {Q : Hp → Prop} (hu : Upd σ l (.list xs) (.list (xs.set k.toNat v)) σ') (h0 : 0 ≤ k) (h1 : k < xs.length) (hz : xs.length ≤ 100000) (h : Q σ') : TSet c n σ (.ref l) (.int k) v Q :=
  fun A F env ow m s ov iv vv ha hs e1 e2 e3 => by
    obtain ⟨t, e2⟩ := e2
    have : ov = .ref l := e1
    subst ov e2
    obtain ⟨i1, n1, g1, r1, l1, z1⟩ := hs.list hu.mem
    refine ki_setAt g1 h0 (by lia) (by lia) ⟨σ', h, hs.upd hu (fun b o q e => (Heap.SameBut.update _ _ _).extBut b o q e) (Heap.get?_update_self _ g1 rfl) ?_⟩
    obtain ⟨n', e⟩ := Obj.data_mapSeq (o := listOf i1 n1) rfl (·.setIfInBounds k.toNat vv)
    refine ⟨i1.setIfInBounds k.toNat vv, _, rfl, ?_⟩
    rw [Array.toList_setIfInBounds]
    exact r1.set _ e3

/-! comparisons of lists -/
theorem unitsOk {A : Around} (ha : AOk n A) : A.units + 64 < cLine := by
  have := ha.un
  show A.units + 64 < 9900
  lia
theorem cm_eql {a b : Addr} {xs ys : List Int} {Q : Bool → Hp → Prop} (h1 : (a, .list (aints xs)) ∈ σ) (h2 : (b, .list (aints ys)) ∈ σ) (h : Q (decide (xs = ys)) σ) : TCmp c n σ .Eq (.ref a) (.ref b) Q := fun A F env ow m s v w ha hs e1 e2 => by
  have : v = .ref a := e1
  have : w = .ref b := e2
  subst v w
  obtain ⟨i1, n1, g1, r1, l1, z1⟩ := hs.list h1
  obtain ⟨i2, n2, g2, r2, l2, z2⟩ := hs.list h2
  exact eq_intsK (vs := i1.toList) (us := i2.toList) (by simpa using l1) (ints_are r1) (by simpa using l2) (ints_are r2) (unitsOk ha) ⟨_, _, rfl, h, hs⟩
theorem cm_nel {a b : Addr} {xs ys : List Int} {Q : Bool → Hp → Prop} (h1 : (a, .list (aints xs)) ∈ σ) (h2 : (b, .list (aints ys)) ∈ σ) (h : Q (!decide (xs = ys)) σ) : TCmp c n σ .NotEq (.ref a) (.ref b) Q := fun A F env ow m s v w ha hs e1 e2 => by
  have : v = .ref a := e1
  have : w = .ref b := e2
  subst v w
  obtain ⟨i1, n1, g1, r1, l1, z1⟩ := hs.list h1
  obtain ⟨i2, n2, g2, r2, l2, z2⟩ := hs.list h2
  exact ne_intsK (vs := i1.toList) (us := i2.toList) (by simpa using l1) (ints_are r1) (by simpa using l2) (ints_are r2) (unitsOk ha) ⟨_, _, rfl, h, hs⟩
theorem eqAt_int {A : Around} {s : Shared} {y : Value} {a b : Int} {u : Tok} (h : (AV.int a).rel c y) : SeqAt.EqAt A s y (.int b u) (a == b) := by
  obtain ⟨t, rfl⟩ := h
  exact (MeetsSeq.EqGives.int a b t u).at A s
noncomputable def isK (k : Int) : Value → Bool
  | .int i _ => i == k
  | _ => false
theorem any_isK {k : Int} : ∀ {xs : List Int} {vs : List Value}, VsRel c (aints xs) vs → vs.any (isK k) = xs.contains k := by
  intro xs
  induction xs with
  | nil => intro vs h; cases vs with
    | nil => exact rfl
    | cons v vs => exact h.elim
  | cons x xs ih =>
    intro vs h
    cases vs with
    | nil => exact h.elim
    | cons v vs =>
    obtain ⟨⟨t, e⟩, h⟩ := h
    have : v = .int x t := e
    subst this
    rw [List.any_cons, ih h, List.contains_cons]
    show ((x == k) || _) = ((k == x) || _)
    rw [BEq.comm]
theorem all_ints : ∀ {xs : List Int} {vs : List Value}, VsRel c (aints xs) vs → ∀ y ∈ vs, ∃ x t, y = .int x t := by
  intro xs
  induction xs with
  | nil => intro vs h; cases vs with
    | nil => exact fun y hy => by cases hy
    | cons v vs => exact h.elim
  | cons x xs ih =>
    intro vs h
    cases vs with
    | nil => exact h.elim
    | cons v vs =>
    intro y hy
    obtain ⟨⟨t, e⟩, h⟩ := h
    rcases List.mem_cons.mp hy with rfl | hy
    · exact ⟨x, t, e⟩
    · exact ih h y hy
theorem cm_in {l : Addr} {xs : List Int} {k : Int} {Q : Bool → Hp → Prop} (hm : (l, .list (aints xs)) ∈ σ) (h : Q (xs.contains k) σ) : TCmp c n σ .In (.int k) (.ref l) Q := fun A F env ow m s v w ha hs e1 e2 => by
  obtain ⟨t, e1⟩ := e1
  have : w = .ref l := e2
  subst w e1
  obtain ⟨i1, n1, g1, r1, l1, z1⟩ := hs.list hm
  refine SeqAt.in_listAt (isK k) l1 (fun y hy => ?_) ?_
  · obtain ⟨x, t', rfl⟩ := all_ints r1 y (by simpa using hy)
    exact eqAt_int (c := c) ⟨t', rfl⟩
  · have : i1.any (isK k) = xs.contains k := by rw [← any_isK r1]; simp
    rw [this]; exact ⟨_, _, rfl, h, hs⟩
theorem cm_notin {l : Addr} {xs : List Int} {k : Int} {Q : Bool → Hp → Prop} (hm : (l, .list (aints xs)) ∈ σ) (h : Q (!xs.contains k) σ) : TCmp c n σ .NotIn (.int k) (.ref l) Q := fun A F env ow m s v w ha hs e1 e2 => by
  obtain ⟨t, e1⟩ := e1
  have : w = .ref l := e2
  subst w e1
  obtain ⟨i1, n1, g1, r1, l1, z1⟩ := hs.list hm
  refine SeqAt.notIn_listAt (isK k) l1 (fun y hy => ?_) ?_
  · obtain ⟨x, t', rfl⟩ := all_ints r1 y (by simpa using hy)
    exact eqAt_int (c := c) ⟨t', rfl⟩
  · have : i1.any (isK k) = xs.contains k := by rw [← any_isK r1]; simp
    rw [this]; exact ⟨_, _, rfl, h, hs⟩

/-! built-in functions -/
theorem f_len {l : Addr} {xs : List AV} {Q : AV → Hp → Prop} (hm : (l, .list xs) ∈ σ) (h : Q (.int xs.length) σ) (hz : xs.length ≤ 100000) : TCB c n (.builtin "len") [.ref l] σ Q := fun A F env ow m s vs ha hs hv => by
  obtain ⟨v, rfl, e⟩ := VsRel.one hv
  have : v = .ref l := e
  subst this
  obtain ⟨i1, n1, g1, r1, l1, z1⟩ := hs.list hm
  refine call_len_list l1 (by lia) ?_
  rw [z1]; exact ex_int h hs.tok
theorem f_max {a b : Int} {Q : AV → Hp → Prop} (h : Q (.int (max a b)) σ) : TCB c n (.builtin "max") [.int a, .int b] σ Q := fun A F env ow m s vs ha hs hv => by
  obtain ⟨v, w, rfl, ⟨t, e1⟩, ⟨u, e2⟩⟩ := VsRel.two hv
  subst e1 e2
  obtain ⟨mm, hmm, FF, NN, back⟩ := hs.fr
  refine max_two_N ha.hd FF NN fun h' tk F' N' => ?_
  have : (if b > a then b else a) = max a b := by lia
  rw [this]; exact ex_int h (back h' tk F' N').2
theorem f_min {a b : Int} {Q : AV → Hp → Prop} (h : Q (.int (min a b)) σ) : TCB c n (.builtin "min") [.int a, .int b] σ Q := fun A F env ow m s vs ha hs hv => by
  obtain ⟨v, w, rfl, ⟨t, e1⟩, ⟨u, e2⟩⟩ := VsRel.two hv
  subst e1 e2
  obtain ⟨mm, hmm, FF, NN, back⟩ := hs.fr
  refine min_two_N ha.hd FF NN fun h' tk F' N' => ?_
  have : (if b < a then b else a) = min a b := by lia
  rw [this]; exact ex_int h (back h' tk F' N').2
theorem f_maxl {l : Addr} {xs : List Int} {Q : AV → Hp → Prop} (hm : (l, .list (aints xs)) ∈ σ) (hne : 0 < xs.length) (h : ∀ M, M ∈ xs → (∀ a ∈ xs, a ≤ M) → Q (.int M) σ) : TCB c n (.builtin "max") [.ref l] σ Q := fun A F env ow m s vs ha hs hv => by
  obtain ⟨v, rfl, e⟩ := VsRel.one hv
  have : v = .ref l := e
  subst this
  obtain ⟨i1, n1, g1, r1, l1, z1⟩ := hs.list hm
  obtain ⟨mm, hmm, FF, NN, back⟩ := hs.fr
  exact max_list_N (vs := i1.toList) ha.hd FF NN (by simpa using l1) (ints_are r1) hne fun h' M t tk F' N' h1 h2 => ex_int (h M h1 h2) (back h' tk F' N').2
theorem f_abs {a : Int} {Q : AV → Hp → Prop} (h : Q (.int a.natAbs) σ) : TCB c n (.builtin "abs") [.int a] σ Q := fun A F env ow m s vs ha hs hv => by
  obtain ⟨v, rfl, ⟨t, e1⟩⟩ := VsRel.one hv
  subst e1
  refine call_abs_int fun u tk => ?_
  have : (if a < 0 then -a else a) = (a.natAbs : Int) := by lia
  rw [this]; exact ex_int h hs.tok
theorem f_int {a : Int} {Q : AV → Hp → Prop} (h : Q (.int a) σ) : TCB c n (.type "int") [.int a] σ Q := fun A F env ow m s vs ha hs hv => by
  obtain ⟨v, rfl, ⟨t, e1⟩⟩ := VsRel.one hv
  subst e1
  exact call_int_int (ex_int h hs)
theorem f_list {l : Addr} {xs : List AV} {Q : AV → Hp → Prop} (hm : (l, .list xs) ∈ σ) (h : ∀ D, Q (.ref D) ((D, .list xs) :: σ)) (hz : xs.length ≤ 100000) : TCB c n (.type "list") [.ref l] σ Q := fun A F env ow m s vs ha hs hv => by
  obtain ⟨v, rfl, e⟩ := VsRel.one hv
  have : v = .ref l := e
  subst this
  obtain ⟨i1, n1, g1, r1, l1, z1⟩ := hs.list hm
  obtain ⟨mm, hmm, FF, NN, back⟩ := hs.fr
  have hmem := hs.r.cell _ hm
  have hbase : c.base.get? l = none := by
    cases e : c.base.get? l with
    | none => rfl
    | some o => have := hmem.1; rw [hs.r.base _ _ e] at this; cases this
  refine kup_listOf FF NN (mem_nwAll g1 (fun q => hs.f.off (q ▸ List.mem_map_of_mem (f := (·.1)) hm)) hbase) rfl (fun D cc h' F' N' hlt => ?_) (by rw [Array.length_toList, z1, sizeLine_eq]; lia)
  have hb := (back h' s.toks F' fun p hp => N' p (.tail _ hp)).2
  exact ex_ref (h D) (hs.newN hb (nwAll_fresh N' hlt) (N' _ (.head _)).1 ⟨_, _, rfl, by simpa using r1⟩)
theorem f_any {l : Addr} {bs : List Bool} {Q : AV → Hp → Prop} (hm : (l, .list (abools bs)) ∈ σ) (h : Q (.bool (bs.any id)) σ) : TCB c n (.builtin "any") [.ref l] σ Q := fun A F env ow m s vs ha hs hv => by
  obtain ⟨v, rfl, e⟩ := VsRel.one hv
  have : v = .ref l := e
  subst this
  obtain ⟨i1, n1, g1, r1, l1, z1⟩ := hs.list hm
  obtain ⟨mm, hmm, FF, NN, back⟩ := hs.fr
  exact LSm.any_bools (vs := i1.toList) FF NN ha.hd (by simpa using l1) (bools_are r1) fun h' tk F' N' => ex_bool h (back h' tk F' N').2
theorem f_all {l : Addr} {bs : List Bool} {Q : AV → Hp → Prop} (hm : (l, .list (abools bs)) ∈ σ) (h : Q (.bool (bs.all id)) σ) : TCB c n (.builtin "all") [.ref l] σ Q := fun A F env ow m s vs ha hs hv => by
  obtain ⟨v, rfl, e⟩ := VsRel.one hv
  have : v = .ref l := e
  subst this
  obtain ⟨i1, n1, g1, r1, l1, z1⟩ := hs.list hm
  obtain ⟨mm, hmm, FF, NN, back⟩ := hs.fr
  exact LSm.all_bools (vs := i1.toList) FF NN ha.hd (by simpa using l1) (bools_are r1) fun h' tk F' N' => ex_bool h (back h' tk F' N').2
end
section
variable {c : Cx} {n : Nat} {sc : Scope} {σ σ' Z : Hp} {m m' : Lm} {F : Fx} {env : Env} {ow : List (Str × Addr)} {s s' : Shared}

/-- an item that a loop is handed -/
inductive IV where | val (a : AV) | pair (a b : AV)
noncomputable def IV.rel (c : Cx) : IV → Value → Heap → Prop
  | .val a, v, _ => a.rel c v
  | .pair a b, v, h => ∃ T x y, v = .ref T ∧ h.IsTuple T #[x, y] ∧ a.rel c x ∧ b.rel c y

noncomputable def Off (F : Fx) (σ : Hp) (env : Env) (ow : List (Str × Addr)) (b : Addr) : Prop := F b = none ∧ b ∉ σ.map (·.1) ∧ b ≠ env.locals ∧ ∀ x, ow.lookup x ≠ some b
noncomputable def fz (F : Fx) (Z : Hp) (h : Heap) : Fx := fun b => if b ∈ Z.map (·.1) then h.get? b else F b
noncomputable def pr (F : Fx) (wr : List Addr) (h : Heap) : Fx := fun b => if b ∈ wr then h.get? b else F b

theorem St.keepsOff {wr : List Addr} {h' : Heap} {tk : Nat} (h : St c F σ env ow m s) (ho : ∀ b ∈ wr, Off F σ env ow b) (hk : ∀ b o, b ∉ wr → s.heap.get? b = some o → h'.get? b = some o) :
    St c F σ env ow m { s with heap := h', toks := tk } := by
  have fr : ∀ b o, F b = some o → b ∉ wr := fun b o e q => by rw [(ho b q).1] at e; cases e
  have hL : env.locals ∉ wr := fun q => (ho _ q).2.2.1 rfl
  refine ⟨⟨h.r.base, fun b o e => hk b o (fr b o e) (h.r.fix b o e), fun p hp => ?_, h.r.nd, h.r.os, h.r.gens⟩, ⟨?_, fun x v hx => ?_, h.f.free, h.f.off, h.f.above, fun x a hp => ?_, h.f.ownd⟩⟩
  · obtain ⟨h1, ob, h2, h3⟩ := h.r.cell p hp
    exact ⟨h1, ob, hk _ _ (fun q => (ho _ q).2.1 (List.mem_map_of_mem hp)) h2, h3⟩
  · obtain ⟨mm, h1, h2⟩ := h.f.ns
    exact ⟨mm, h1.at' fun o e => hk _ o hL e, h2⟩
  · rcases h.f.cl x v hx with q | ⟨a, vv, o, q1, q2, q3, q4, q5, q6⟩
    · exact .inl q
    · refine .inr ⟨a, vv, o, q1, q2, hk _ _ ?_ q3, q4, q5, q6⟩
      rcases q6 with q6 | q6
      · exact fr _ _ q6
      · exact fun q => (ho _ q).2.2.2 _ q6
  · obtain ⟨a1, a2, a3, o, v, a4, a5⟩ := h.f.owd x a hp
    exact ⟨a1, a2, a3, o, v, hk _ _ (fun q => (ho _ q).2.2.2 _ hp) a4, a5⟩

theorem St.freeze (h : St c F (Z ++ σ) env ow m s) : St c (fz F Z s.heap) σ env ow m s := by
  have hZ : ∀ b, b ∈ Z.map (·.1) → b ∈ (Z ++ σ).map (·.1) := fun b hb => by rw [List.map_append]; exact List.mem_append_left _ hb
  have hσ : ∀ b, b ∈ σ.map (·.1) → b ∈ (Z ++ σ).map (·.1) := fun b hb => by rw [List.map_append]; exact List.mem_append_right _ hb
  have off : ∀ b, b ∉ Z.map (·.1) → fz F Z s.heap b = F b := fun b q => by unfold fz; rw [if_neg q]
  have notZ : ∀ b o, F b = some o → b ∉ Z.map (·.1) := fun b o e q => by rw [h.r.keyFree (hZ b q)] at e; cases e
  have nd := h.r.nd
  rw [List.map_append, List.nodup_append] at nd
  refine ⟨⟨fun b o e => ?_, fun b o e => ?_, fun p hp => ?_, nd.2.1, h.r.os, h.r.gens⟩, ⟨h.f.ns, fun x v hx => ?_, ?_, fun q => h.f.off (hσ _ q), h.f.above, fun x a hp => ?_, h.f.ownd⟩⟩
  · have := h.r.base b o e
    rw [off b (notZ b o this)]; exact this
  · unfold fz at e
    split at e
    · exact e
    · exact h.r.fix b o e
  · obtain ⟨h1, h2⟩ := h.r.cell p (List.mem_append_right _ hp)
    refine ⟨?_, h2⟩
    rw [off p.1 fun q => nd.2.2 _ q _ (List.mem_map_of_mem hp) rfl]; exact h1
  · rcases h.f.cl x v hx with q | ⟨a, vv, o, q1, q2, q3, q4, q5, q6⟩
    · exact .inl q
    · refine .inr ⟨a, vv, o, q1, q2, q3, q4, q5, q6.imp (fun e => ?_) id⟩
      rw [off a (notZ a o e)]; exact e
  · rw [off _ fun q => h.f.off (hZ _ q)]; exact h.f.free
  · obtain ⟨a1, a2, r⟩ := h.f.owd x a hp
    exact ⟨by rw [off _ fun q => a2 (hZ _ q)]; exact a1, fun q => a2 (hσ _ q), r⟩
theorem St.thaw (h : St c F (Z ++ σ) env ow m s) (h1 : St c (fz F Z s.heap) σ' env ow m' s') : St c F (Z ++ σ') env ow m' s' := by
  have hZ : ∀ b, b ∈ Z.map (·.1) → b ∈ (Z ++ σ).map (·.1) := fun b hb => by rw [List.map_append]; exact List.mem_append_left _ hb
  have off : ∀ b, b ∉ Z.map (·.1) → fz F Z s.heap b = F b := fun b q => by unfold fz; rw [if_neg q]
  have notZ : ∀ b o, F b = some o → b ∉ Z.map (·.1) := fun b o e q => by rw [h.r.keyFree (hZ b q)] at e; cases e
  have live : ∀ b, b ∈ Z.map (·.1) → ∃ o, fz F Z s.heap b = some o := fun b q => by
    obtain ⟨o, e⟩ := h.r.keyLive (hZ b q)
    exact ⟨o, by unfold fz; rw [if_pos q]; exact e⟩
  have nd := h.r.nd
  rw [List.map_append, List.nodup_append] at nd
  refine ⟨⟨h.r.base, fun b o e => h1.r.fix b o (by rw [off b (notZ b o e)]; exact e), fun p hp => ?_, ?_, h1.r.os, h1.r.gens⟩, ⟨h1.f.ns, fun x v hx => ?_, h.f.free, fun q => ?_, h.f.above, fun x a hp => ?_, h.f.ownd⟩⟩
  · rcases List.mem_append.mp hp with hp | hp
    · obtain ⟨g1, ob, g2, g3⟩ := h.r.cell p (List.mem_append_left _ hp)
      refine ⟨g1, ob, h1.r.fix _ _ ?_, g3⟩
      unfold fz; rw [if_pos (List.mem_map_of_mem hp)]; exact g2
    · obtain ⟨g1, g2⟩ := h1.r.cell p hp
      refine ⟨?_, g2⟩
      by_cases q : p.1 ∈ Z.map (·.1)
      · obtain ⟨o, e⟩ := live _ q; rw [e] at g1; cases g1
      · rw [off _ q] at g1; exact g1
  · rw [List.map_append, List.nodup_append]
    refine ⟨nd.1, h1.r.nd, fun a ha b hb e => ?_⟩
    subst e
    obtain ⟨o, e⟩ := live _ ha
    rw [h1.r.keyFree hb] at e; cases e
  · rcases h1.f.cl x v hx with q | ⟨a, vv, o, q1, q2, q3, q4, q5, q6⟩
    · exact .inl q
    · by_cases q : a ∈ Z.map (·.1)
      · -- a cell is no frozen object
        obtain ⟨p, hp, e⟩ := List.mem_map.mp q
        obtain ⟨g1, ob, g2, g3⟩ := h.r.cell p (List.mem_append_left _ hp)
        have : fz F Z s.heap a = some ob := by unfold fz; rw [if_pos q, ← e]; exact g2
        have := h1.r.fix _ _ this
        rw [q3] at this
        cases this
        exfalso
        revert g3 q4
        cases hpp : p.2 with
        | list vs => rintro q4 ⟨_, _, e, _⟩; rw [e] at q4; cases q4
        | tup vs => rintro q4 ⟨_, _, e, _⟩; rw [e] at q4; cases q4
        | inst C dx => intro q4 e; rw [e] at q4; cases q4
        | attrs fs => rintro q4 ⟨_, _, e, _⟩; rw [e] at q4; cases q4
        | dict ks => rintro q4 ⟨_, _, _, e, _⟩; rw [e] at q4; cases q4
      · refine .inr ⟨a, vv, o, q1, q2, q3, q4, q5, q6.imp (fun e => ?_) id⟩
        rw [off a q] at e; exact e
  · rw [List.map_append] at q
    rcases List.mem_append.mp q with q | q
    · exact h.f.off (hZ _ q)
    · exact h1.f.off q
  · obtain ⟨a1, a2, a3, r⟩ := h1.f.owd x a hp
    obtain ⟨b1, b2, _⟩ := h.f.owd x a hp
    refine ⟨b1, fun q => ?_, a3, r⟩
    rw [List.map_append] at q
    rcases List.mem_append.mp q with q | q
    · exact b2 (hZ _ q)
    · exact a2 q

theorem St.protect {wr : List Addr} (h : St c F σ env ow m s) (ho : ∀ b ∈ wr, Off F σ env ow b) : St c (pr F wr s.heap) σ env ow m s := by
  have off : ∀ b, b ∉ wr → pr F wr s.heap b = F b := fun b q => by unfold pr; rw [if_neg q]
  have notW : ∀ b o, F b = some o → b ∉ wr := fun b o e q => by rw [(ho b q).1] at e; cases e
  refine ⟨⟨fun b o e => ?_, fun b o e => ?_, fun p hp => ?_, h.r.nd, h.r.os, h.r.gens⟩, ⟨h.f.ns, fun x v hx => ?_, ?_, h.f.off, h.f.above, fun x a hp => ?_, h.f.ownd⟩⟩
  · have := h.r.base b o e
    rw [off b (notW b o this)]; exact this
  · unfold pr at e
    split at e
    · exact e
    · exact h.r.fix b o e
  · obtain ⟨h1, h2⟩ := h.r.cell p hp
    exact ⟨by rw [off p.1 fun q => (ho _ q).2.1 (List.mem_map_of_mem hp)]; exact h1, h2⟩
  · rcases h.f.cl x v hx with q | ⟨a, vv, o, q1, q2, q3, q4, q5, q6⟩
    · exact .inl q
    · refine .inr ⟨a, vv, o, q1, q2, q3, q4, q5, q6.imp (fun e => ?_) id⟩
      rw [off a (notW a o e)]; exact e
  · rw [off _ fun q => (ho _ q).2.2.1 rfl]; exact h.f.free
  · obtain ⟨a1, r⟩ := h.f.owd x a hp
    exact ⟨by rw [off _ fun q => (ho _ q).2.2.2 _ hp]; exact a1, r⟩
theorem St.unprotect {wr : List Addr} (h : St c F σ env ow m s) (ho : ∀ b ∈ wr, Off F σ env ow b) (hlive : ∀ b ∈ wr, ∃ o, s.heap.get? b = some o ∧ ∀ v, o.data ≠ .cell v) (h1 : St c (pr F wr s.heap) σ' env ow m' s') :
    St c F σ' env ow m' s' ∧ ∀ b ∈ wr, Off F σ' env ow b := by
  have off : ∀ b, b ∉ wr → pr F wr s.heap b = F b := fun b q => by unfold pr; rw [if_neg q]
  have notW : ∀ b o, F b = some o → b ∉ wr := fun b o e q => by rw [(ho b q).1] at e; cases e
  have live : ∀ b ∈ wr, ∃ o, pr F wr s.heap b = some o := fun b q => by
    obtain ⟨o, e, _⟩ := hlive b q
    exact ⟨o, by unfold pr; rw [if_pos q]; exact e⟩
  have none_of : ∀ b, pr F wr s.heap b = none → F b = none := fun b e => by
    by_cases q : b ∈ wr
    · exact (ho b q).1
    · rw [off b q] at e; exact e
  refine ⟨⟨⟨h.r.base, fun b o e => h1.r.fix b o (by rw [off b (notW b o e)]; exact e), fun p hp => ⟨none_of _ (h1.r.cell p hp).1, (h1.r.cell p hp).2⟩, h1.r.nd, h1.r.os, h1.r.gens⟩, ⟨h1.f.ns, fun x v hx => ?_, h.f.free, h1.f.off, h.f.above, fun x a hp => ?_, h.f.ownd⟩⟩, fun b hb => ⟨(ho b hb).1, fun q => ?_, (ho b hb).2.2⟩⟩
  · rcases h1.f.cl x v hx with q | ⟨a, vv, o, q1, q2, q3, q4, q5, q6⟩
    · exact .inl q
    · refine .inr ⟨a, vv, o, q1, q2, q3, q4, q5, ?_⟩
      by_cases q : a ∈ wr
      · rcases q6 with q6 | q6
        · obtain ⟨o', e1, e2⟩ := hlive a q
          have : pr F wr s.heap a = some o' := by unfold pr; rw [if_pos q]; exact e1
          rw [q6] at this
          cases this
          exact absurd q4 (e2 _)
        · exact .inr q6
      · exact q6.imp (fun e => by rw [off a q] at e; exact e) id
  · obtain ⟨a1, r⟩ := h1.f.owd x a hp
    exact ⟨none_of _ a1, r⟩
  · obtain ⟨o, e⟩ := live b hb
    rw [h1.r.keyFree q] at e; cases e

/-- an iterator as the loops here use it -/
structure KT (c : Cx) (A : Around) (target : Expr) (I : Addr) (fp wr : List Addr) (k : Nat) (P Md : Nat → Value → Heap → Prop) (Sti : Nat → Heap → Prop) : Prop where
  k : KTurns c.prog c.w A target I fp wr k P Md Sti
  self : ∀ i (s : Shared) (Q : Value → Shared → Prop) (E : Value → Shared → Prop), Sti i s.heap → Q (.ref I) s → wpAny (model c.prog c.w) A (pyIter (.ref I)) Q E s
  live : ∀ i h, Sti i h → ∀ b ∈ wr, ∃ o, h.get? b = some o ∧ ∀ v, o.data ≠ .cell v
noncomputable def ItAt (c : Cx) (A : Around) (target : Expr) (Z : Hp) (xs : List IV) (F : Fx) (σ : Hp) (env : Env) (ow : List (Str × Addr)) (m : Lm) (it : Value) (s : Shared) : Prop :=
  ∃ I fp wr P Md Sti, it = .ref I ∧ KT c A target I fp wr xs.length P Md Sti ∧ Sti 0 s.heap ∧ St c F (Z ++ σ) env ow m s ∧ (∀ b ∈ wr, Off F (Z ++ σ) env ow b) ∧ (∀ b ∈ fp, b ∈ wr ∨ b ∈ Z.map (·.1)) ∧ (∀ i v h, P i v h → ∃ iv, xs[i]? = some iv ∧ iv.rel c v h)
noncomputable abbrev PIt (c : Cx) (A : Around) (target : Expr) (Q : List IV → Hp → Hp → Prop) (F : Fx) (env : Env) (ow : List (Str × Addr)) (m : Lm) (xv : Value) (s1 : Shared) : Prop :=
  wpAny (model c.prog c.w) A (pyIter xv) (fun it s2 => ∃ xs Z σ', Q xs Z σ' ∧ ItAt c A target Z xs F σ' env ow m it s2) (fun _ _ => False) s1
noncomputable def TIt (c : Cx) (n : Nat) (sc : Scope) (σ : Hp) (m : Lm) (iter target : Expr) (Q : List IV → Hp → Hp → Prop) : Prop :=
  ∀ A F env ow s, AOk n A → EnvOk sc env ow → St c F σ env ow m s →
    wpAny (model c.prog c.w) A (eval iter env) (PIt c A target Q F env ow m) (fun _ _ => False) s

/-- an item taken by the target -/
noncomputable def TV (c : Cx) (n : Nat) (sc : Scope) (σ : Hp) (m : Lm) (target : Expr) : IV → (Hp → Lm → Prop) → Prop
  | .val a, Q => TA c n sc σ m target a Q
  | .pair a b, Q => ∃ t1 t2 k p, target = .Tuple [t1, t2] k p ∧ noStar t1 = true ∧ noStar t2 = true ∧ TAs c n sc σ m [t1, t2] [a, b] Q
theorem tv_run {target : Expr} {iv : IV} {Q : Hp → Lm → Prop} (h : TV c n sc σ m target iv Q) {A : Around} {v : Value} (ha : AOk n A) (he : EnvOk sc env ow) (hs : St c F σ env ow m s) (hr : iv.rel c v s.heap) :
    wpAny (model c.prog c.w) A (assign target env v) (PA c Q F env ow) (fun _ _ => False) s := by
  cases iv with
  | val a => exact h A F env ow s v ha he hs hr
  | pair a b =>
    obtain ⟨t1, t2, k, p, rfl, n1, n2, h⟩ := h
    obtain ⟨T, x, y, rfl, hT, r1, r2⟩ := hr
    obtain ⟨e1, e2, e3⟩ := each_map [t1, t2] (env := env) (by simp [n1, n2])
    obtain ⟨mm, hmm, FF, NN, back⟩ := hs.fr
    refine unpackN_ (items := #[x, y]) FF NN hT ha.hd (by rw [e3]; rfl) e2 fun h' F' N' => ?_
    rw [e1]
    exact targets_run [t1, t2] (vs := [x, y]) h ⟨r1, r2, trivial⟩ A F env ow _ ha he (back h' s.toks F' N').2

noncomputable abbrev FInv (c : Cx) (J : Nat → Hp → Lm → Prop) (N : Nat) (Sti : Nat → Heap → Prop) (G : Fx) (env : Env) (ow : List (Str × Addr)) (wr : List Addr) (k : Nat) (s' : Shared) : Prop :=
  ∃ i σ m, J i σ m ∧ i ≤ N ∧ k = N + 1 - i ∧ Sti i s'.heap ∧ St c G σ env ow m s' ∧ ∀ b ∈ wr, Off G σ env ow b
theorem s_for {target iter : Expr} {body : List Stmt} {pos : Pos} {Qn : Hp → Lm → Prop} {Qr : AF → Hp → Lm → Prop}
    (h : TIt c n sc σ m iter target fun xs Z σ0 => ∃ J : Nat → Hp → Lm → Prop, J 0 σ0 m ∧
      (∀ i iv σ m, xs[i]? = some iv → J i σ m → TV c n sc σ m target iv fun σ' m' => TS c n sc σ' m' body (J (i + 1)) fun af σ'' m'' => match af with
        | .cont => J (i + 1) σ'' m''
        | .brk => Qn (Z ++ σ'') m''
        | .ret v => Qr (.ret v) (Z ++ σ'') m'') ∧
      ∀ σ m, J xs.length σ m → Qn (Z ++ σ) m)
    (hfs : ∀ (env : Env) x, foldedSetIterable iter env x = pure x := by intro _ _; rfl) : TX c n sc σ m (.For target iter body [] pos) Qn Qr :=
  fun A F env ow s ha he hs => by
    refine wpAny_For (wpAny_mono (h A F env ow s ha he.toEnvOk hs) (fun xv s1 h1 => wpAny_mono h1 (fun it s2 h2 => ?_) fun _ _ x => x.elim) fun _ _ x => x.elim) (hfs env)
    obtain ⟨xs, Z, σ0, ⟨J, hJ0, turn, hend⟩, I, fp, wr, P, Md, Sti, rfl, W, hst, hs2, hoff, hfp, hP⟩ := h2
    have hF1 := hs2.freeze
    have hZF : ∀ b, b ∈ Z.map (·.1) → ∃ o, fz F Z s2.heap b = some o := fun b q => by
      obtain ⟨o, e⟩ := hs2.r.keyLive (a := b) (by rw [List.map_append]; exact List.mem_append_left _ q)
      exact ⟨o, by unfold fz; rw [if_pos q]; exact e⟩
    refine codeAny_forLoop_any (FInv c J xs.length Sti (fz F Z s2.heap) env ow wr) ?_ (xs.length + 1)
      ⟨0, σ0, m, hJ0, Nat.zero_le _, rfl, hst, hF1, fun b hb => ?_⟩
    · rintro k s' ⟨i, σ, m, hJ, hi, rfl, hst', hs', hoff'⟩
      by_cases hlt : i < xs.length
      · refine W.k.item i _ _ _ hlt hst' fun v h1 tk1 hMd hk1 => ?_
        refine W.k.go i v _ _ _ hMd fun h2 hPv hst2 hk2 => ?_
        have hs3 : St c (fz F Z s2.heap) σ env ow m { s' with heap := h2, toks := tk1 } := hs'.keepsOff hoff' fun b o hb e => hk2 b o hb (hk1 b o hb e)
        obtain ⟨iv, hiv, hrel⟩ := hP i v h2 hPv
        have hs4 := hs3.protect hoff'
        refine wpAny_mono (tv_run (turn i iv σ m hiv hJ) ha he.toEnvOk hs4 hrel) (fun _ s5 => ex4 fun σ5 m5 h5 hs5 => ?_) fun _ _ x => x.elim
        refine wpAny_mono (h5 A _ env ow s5 ha he hs5) (fun f s6 => ex4 fun σ6 m6 h6 hs6 => ?_) fun _ _ x => x.elim
        obtain ⟨hs7, hoff7⟩ := hs3.unprotect hoff' (W.live _ _ hst2) hs6
        have hst6 : Sti (i + 1) s6.heap := W.k.frame _ _ _ hst2 fun b hb o e => by
          rcases hfp b hb with q | q
          · exact hs6.r.fix b o (by unfold pr; rw [if_pos q]; exact e)
          · obtain ⟨o', e'⟩ := hZF b q
            have := hs3.r.fix b o' e'
            have e2 : h2.get? b = some o' := this
            rw [e] at e2; cases e2
            exact hs7.r.fix b o e'
        rcases h6 with ⟨rfl, h6⟩ | ⟨af, r, h6⟩
        · exact ⟨xs.length + 1 - (i + 1), by lia, i + 1, σ6, m6, h6, hlt, rfl, hst6, hs7, hoff7⟩
        · cases af with
          | brk => cases r; exact ⟨Z ++ σ6, m6, .inl ⟨rfl, h6⟩, hs2.thaw hs7⟩
          | cont => cases r; exact ⟨xs.length + 1 - (i + 1), by lia, i + 1, σ6, m6, h6, hlt, rfl, hst6, hs7, hoff7⟩
          | ret v =>
            obtain ⟨vv, rfl, r⟩ := r
            exact ⟨Z ++ σ6, m6, .inr ⟨.ret v, ⟨vv, rfl, r⟩, h6⟩, hs2.thaw hs7⟩
      · have hin : i = xs.length := by lia
        subst hin
        refine W.k.done _ _ _ hst' fun h1 tk1 hk1 => wpAny_execs_nil ?_
        exact ⟨Z ++ σ, m, .inl ⟨rfl, hend σ m hJ⟩, hs2.thaw (hs'.keepsOff hoff' hk1)⟩
    · obtain ⟨a1, a2, a3⟩ := hoff b hb
      have q : b ∉ Z.map (·.1) := fun q => a2 (by rw [List.map_append]; exact List.mem_append_left _ q)
      exact ⟨by unfold fz; rw [if_neg q]; exact a1, fun q => a2 (by rw [List.map_append]; exact List.mem_append_right _ q), a3⟩
end
section
variable {c : Cx} {n : Nat} {sc : Scope} {σ σ' Z : Hp} {m m' : Lm}

inductive Pick : Hp → Addr → AO → Hp → Prop
  | head {l o t} : Pick ((l, o) :: t) l o t
  | tail {p t l o t'} : Pick t l o t' → Pick (p :: t) l o (p :: t')
theorem Pick.perm {l : Addr} {o : AO} (h : Pick σ l o σ') : ((l, o) :: σ').Perm σ := by
  induction h with
  | head => exact .refl _
  | tail _ ih => exact (List.Perm.swap _ _ _).trans (ih.cons _)
theorem Pick.mem {l : Addr} {o : AO} (h : Pick σ l o σ') : (l, o) ∈ σ := h.perm.subset (.head _)

theorem VsRel.back {as : List AV} {vs : List Value} (h : VsRel c as vs) (i : Nat) {v : Value} (e : vs[i]? = some v) : ∃ a, as[i]? = some a ∧ a.rel c v := by
  induction as generalizing vs i with
  | nil => cases vs with
    | nil => cases e
    | cons v vs => exact h.elim
  | cons b as ih => cases vs with
    | nil => exact h.elim
    | cons w vs => cases i with
      | zero => cases e; exact ⟨b, rfl, h.1⟩
      | succ i => exact ih h.2 i e

theorem off_new {F : Fx} {env : Env} {ow : List (Str × Addr)} {s : Shared} (hs : St c F σ env ow m s) {b : Addr} (hb : s.heap.get? b = none) : Off F σ env ow b := by
  refine ⟨?_, fun q => ?_, fun q => ?_, fun x q => ?_⟩
  · cases e : F b with
    | none => rfl
    | some o => rw [hs.r.fix b o e] at hb; cases hb
  · obtain ⟨o, e⟩ := hs.r.keyLive q; rw [hb] at e; cases e
  · obtain ⟨mm, ⟨o, _, _, e, _⟩, _⟩ := hs.f.ns
    rw [q, e] at hb; cases hb
  · obtain ⟨_, _, _, o, v, e, _⟩ := hs.f.owd x b q
    rw [hb] at e; cases e

theorem KT.ofWalks {A : Around} {target : Expr} {I : Addr} {fp wr : List Addr} {k : Nat} {P : Nat → Value → Prop} {Sti : Nat → Heap → Prop} (W : Walks c.prog c.w A I fp wr k P Sti)
    (hgo : ∀ i v (s : Shared) (Q : Unit → Shared → Prop) (E : Value → Shared → Prop), Sti i s.heap → Q () s → wpAny (model c.prog c.w) A (letOwnedTupleGo target (.ref I) v) Q E s)
    (hlive : ∀ i h, Sti i h → ∀ b ∈ wr, ∃ o, h.get? b = some o ∧ ∀ v, o.data ≠ .cell v) : KT c A target I fp wr k (fun i v _ => P i v) (fun i v h => P i v ∧ Sti (i + 1) h) Sti := ⟨.ofWalks W hgo, W.self, hlive⟩

theorem KT.len {A : Around} {target : Expr} {I : Addr} {fp wr : List Addr} {k k' : Nat} {P Md : Nat → Value → Heap → Prop} {Sti : Nat → Heap → Prop} (K : KT c A target I fp wr k P Md Sti) (e : k = k') : KT c A target I fp wr k' P Md Sti := e ▸ K
theorem it_list {iter target : Expr} {Q : List IV → Hp → Hp → Prop} (h : TE c n sc σ m iter fun v σ1 => ∃ l vs σ0, v = .ref l ∧ Pick σ1 l (.list vs) σ0 ∧ Q (vs.map .val) [(l, .list vs)] σ0) : TIt c n sc σ m iter target Q :=
  fun A F env ow s ha he hs => wpAny_mono (h A F env ow s ha he hs) (fun xv s1 => PE.go fun av σ1 r1 hx1 hs1 => by
    obtain ⟨l, vs, σ0, e1, hp, hq⟩ := hx1
    subst e1
    have : xv = .ref l := r1
    subst this
    obtain ⟨items, nn, g1, r, l1, z1⟩ := hs1.list hp.mem
    have hlt : l < s1.heap.objs.size := Heap.lt_size g1
    refine wpAny_pyIter_list l1 ⟨_, _, _, hq, ?_⟩
    have hs2 := (hs1.keeps (h' := s1.heap.push { cls := .type "list_iterator", data := .fields #[.ref l, .int 0 0] }) (tk := s1.toks) fun _ _ e => Heap.get?_push_of_some _ e).perm hp.perm
    have K := KT.ofWalks (c := c) (target := target) (Walks.list ha.hd s1.heap.objs.size l (Nat.ne_of_lt hlt) items) (fun i v s Q E st q => letGo_listiter st.1 q) fun i h st b hb => by
      rw [List.mem_singleton.mp hb]
      obtain ⟨o, ho, hc, hd⟩ := st.1
      exact ⟨o, ho, fun v q => by rw [hd] at q; cases q⟩
    rw [z1, ← List.length_map (as := vs) (f := IV.val)] at K
    refine ⟨s1.heap.objs.size, _, _, _, _, _, rfl, K, ⟨⟨_, Heap.get?_push_size _ rfl, rfl, rfl⟩, l1.at fun o e => Heap.get?_push_of_some _ e⟩, hs2, fun b hb => ?_, fun b hb => ?_, fun i v h hPv => ?_⟩
    · rw [List.mem_singleton.mp hb]
      have := off_new (hs1.perm hp.perm) (b := s1.heap.objs.size) (Heap.get?_none_of_le (Nat.le_refl _))
      exact this
    · rcases List.mem_cons.mp hb with q | q
      · exact .inl (by simp [q])
      · exact .inr (by simp [List.mem_singleton.mp q])
    · obtain ⟨a, e1, e2⟩ := r.back i (v := v) (by simpa using hPv)
      exact ⟨.val a, by rw [List.getElem?_map, e1]; rfl, e2⟩) fun _ _ x => x

theorem it_tup {iter target : Expr} {Q : List IV → Hp → Hp → Prop} (h : TE c n sc σ m iter fun v σ1 => ∃ l vs σ0, v = .ref l ∧ Pick σ1 l (.tup vs) σ0 ∧ Q (vs.map .val) [(l, .tup vs)] σ0) : TIt c n sc σ m iter target Q :=
  fun A F env ow s ha he hs => wpAny_mono (h A F env ow s ha he hs) (fun xv s1 => PE.go fun av σ1 r1 hx1 hs1 => by
    obtain ⟨l, vs, σ0, e1, hp, hq⟩ := hx1
    subst e1
    have : xv = .ref l := r1
    subst this
    obtain ⟨_, ob, g1, items, nn, rfl, r⟩ := hs1.r.cell _ hp.mem
    have l1 : s1.heap.IsTuple l items := ⟨_, g1, rfl, nn, rfl⟩
    have z1 : items.size = vs.length := by rw [r.length]; simp
    have hlt : l < s1.heap.objs.size := Heap.lt_size g1
    refine wpAny_pyIter_tuple l1 ⟨_, _, _, hq, ?_⟩
    have hs2 := (hs1.keeps (h' := s1.heap.push { cls := .type "tuple_iterator", data := .fields #[.ref l, .int 0 0] }) (tk := s1.toks) fun _ _ e => Heap.get?_push_of_some _ e).perm hp.perm
    have K := KT.ofWalks (c := c) (target := target) (Walks.tuple ha.hd s1.heap.objs.size l (Nat.ne_of_lt hlt) items) (fun i v s Q E st q => letGo_tupleiter st.1 q) fun i h st b hb => by
      rw [List.mem_singleton.mp hb]
      obtain ⟨o, ho, hc, hd⟩ := st.1
      exact ⟨o, ho, fun v q => by rw [hd] at q; cases q⟩
    rw [z1, ← List.length_map (as := vs) (f := IV.val)] at K
    refine ⟨s1.heap.objs.size, _, _, _, _, _, rfl, K, ⟨⟨_, Heap.get?_push_size _ rfl, rfl, rfl⟩, l1.at fun o e => Heap.get?_push_of_some _ e⟩, hs2, fun b hb => ?_, fun b hb => ?_, fun i v h hPv => ?_⟩
    · rw [List.mem_singleton.mp hb]
      exact off_new (hs1.perm hp.perm) (b := s1.heap.objs.size) (Heap.get?_none_of_le (Nat.le_refl _))
    · rcases List.mem_cons.mp hb with q | q
      · exact .inl (by simp [q])
      · exact .inr (by simp [List.mem_singleton.mp q])
    · obtain ⟨a, e1, e2⟩ := r.back i (v := v) (by simpa using hPv)
      exact ⟨.val a, by rw [List.getElem?_map, e1]; rfl, e2⟩) fun _ _ x => x

theorem Walks.lt {prog : Program} {w : World} {A : Around} {I : Addr} {fp wr : List Addr} {k : Nat} {P : Nat → Value → Prop} {Sti : Nat → Heap → Prop} (W : Walks prog w A I fp wr k P Sti) : Walks prog w A I fp wr k (fun i v => i < k ∧ P i v) Sti :=
  ⟨W.sub, W.frame, fun i s Q E hi st hQ => W.item i s Q E hi st fun v h' tk hP => hQ v h' tk ⟨hi, hP⟩, W.done, W.self⟩
/-- a built-in called for its iterator -/
noncomputable def TItB (c : Cx) (n : Nat) (v : Value) (args : List AV) (σ : Hp) (m : Lm) (target : Expr) (Q : List IV → Hp → Hp → Prop) : Prop :=
  ∀ A F env ow s vs, AOk n A → St c F σ env ow m s → VsRel c args vs →
    wpAny (model c.prog c.w) A (call v vs []) (PIt c A target Q F env ow m) (fun _ _ => False) s
theorem it_call {f : Str} {p pos : Pos} {e : Expr} {es : List Expr} {v : Value} {target : Expr} {Q : List IV → Hp → Hp → Prop} (hv : builtinsUsed.lookup f = some v) (hc : Cal c (.raw v)) (h : TEs c n sc m σ (e :: es) fun vs σ2 => TItB c n v vs σ2 m target Q)
    (hk : sc.names.lookup f = some .globalImplicit := by with_unfolding_all exact rfl) (ho : okName f = true := by with_unfolding_all exact rfl) (hp : (e :: es).all noStar = true := by with_unfolding_all exact rfl) : TIt c n sc σ m (.Call (.Name f p) (e :: es) [] pos) target Q :=
  fun A F env ow s ha he hs => by
    refine Call_Name rfl (wpAny_mono (t_gbi (v := v) (Q := fun v' σ' => v' = .raw v ∧ σ' = σ) hv ⟨rfl, rfl⟩ hk ho A F env ow s ha he hs) (fun fv s1 => PE.go fun av σ1 r1 hx hs1 => hx.elim fun h1 h2 => ?_) fun _ _ x => x.elim)
    subst h1 h2
    exact call_run hc hp h ha he hs1 r1 fun vs s1 avs σ1 h1 q1 q2 => by
      have : fv = v := r1
      subst this
      exact h1 A F env ow s1 vs ha q2 q1
noncomputable def upto (a : Int) (k : Nat) : List IV := (List.range k).map fun (i : Nat) => .val (.int (a + i))
theorem letGo_range {target : Expr} {I : Addr} {x y z : Int} {v : Value} {M : Model} {A : Around} {E : Value → Shared → Prop} {s : Shared} {Q : Unit → Shared → Prop} (h : IsRangeIter s.heap I x y z) (hq : Q () s) : wpAny M A (letOwnedTupleGo target (.ref I) v) Q E s := by
  unfold letOwnedTupleGo
  cases target <;> try exact wpAny_pure hq
  all_goals
    cases v <;> try exact wpAny_pure hq
    all_goals
      refine wpAny_bind (wpAny_load h ?_)
      exact wpAny_pure hq
theorem it_range {k : Int} {target : Expr} {Q : List IV → Hp → Hp → Prop} (h0 : 0 ≤ k) (h1 : k ≤ 100000) (h : Q (upto 0 k.toNat) [] σ) : TItB c n (.type "range") [.int k] σ m target Q :=
  fun A F env ow s vs ha hs hv => by
    obtain ⟨v, rfl, ⟨t, e⟩⟩ := VsRel.one hv
    subst e
    refine call_range_1 ?_
    have hsz : Builtin.Range.rangeSize 0 k 1 = (k.toNat : Int) := by rw [rangeSize_one]; split <;> lia
    refine wpAny_pyIter_range (IsRange.new _ _ _ _ _ _ _) (small_one (by lia) (by lia) (by lia) (by lia)) ⟨_, _, _, h, ?_⟩
    dsimp only
    have hs1 : St c F σ env ow m { s with heap := s.heap.push { cls := .type "range", data := .fields #[.int 0 s.toks, .int k t, .int 1 (s.toks + 1)] }, toks := s.toks + 1 + 1 } := hs.keeps fun _ _ e => Heap.get?_push_of_some _ e
    generalize s.heap.push { cls := .type "range", data := .fields #[.int 0 s.toks, .int k t, .int 1 (s.toks + 1)] } = H at hs1
    have hs2 : St c F σ env ow m { s with heap := H.push { cls := .type "range_iterator", data := .fields #[rawInt 0, rawInt (Builtin.Range.rangeSize 0 k 1), rawInt 1] }, toks := s.toks + 1 + 1 } := hs1.keeps fun _ _ e => Heap.get?_push_of_some _ e
    have W := LCg.range_walks (prog := c.prog) (w := c.w) (I := H.objs.size) ha.hd 0 k.toNat
    have K := KT.ofWalks (c := c) (target := target) (Walks.lt W) (fun i v s Q E st q => letGo_range st q) fun i h st b hb => by
      rw [List.mem_singleton.mp hb]
      exact ⟨_, st, fun v q => by cases q⟩
    refine ⟨H.objs.size, _, _, _, _, _, rfl, K.len (by simp [upto]), ?_, hs2, fun b hb => ?_, fun b hb => .inl hb, fun i v h hPv => ?_⟩
    · have := Heap.get?_push_size H (o := { cls := .type "range_iterator", data := .fields #[rawInt 0, rawInt (Builtin.Range.rangeSize 0 k 1), rawInt 1] }) rfl
      rw [hsz] at this ⊢
      simpa [IsRangeIter] using this
    · rw [List.mem_singleton.mp hb]
      exact off_new hs1 (b := H.objs.size) (Heap.get?_none_of_le (Nat.le_refl _))
    · obtain ⟨t, rfl⟩ := hPv.2
      refine ⟨.val (.int (0 + i)), ?_, ⟨t, rfl⟩⟩
      have hlt := hPv.1
      simp [upto, hlt]
end
section
variable {c : Cx} {n : Nat} {sc : Scope} {σ σ' Z : Hp} {m m' : Lm}

theorem KT.ofWalksU {A : Around} {elts : List Expr} {kk : Nat} {pos : Pos} {I : Addr} {fp wr : List Addr} {k : Nat} {Pt : Nat → Array Value → Prop} {Sti : Nat → Heap → Prop} {Mid : Nat → Addr → Heap → Prop} (W : WalksU c.prog c.w A I fp wr k Pt Sti Mid)
    (hlive : ∀ i h, Sti i h → ∀ b ∈ wr, ∃ o, h.get? b = some o ∧ ∀ v, o.data ≠ .cell v) : KT c A (.Tuple elts kk pos) I fp wr k (fun i v h => ∃ T vals, v = .ref T ∧ Pt i vals ∧ h.IsTuple T vals) (fun i v h => ∃ T vals, v = .ref T ∧ Pt i vals ∧ h.IsTuple T vals ∧ Mid i T h) Sti :=
  ⟨KTurns.ofWalksU W, W.self, hlive⟩

theorem KTurns.more {A : Around} {target : Expr} {I : Addr} {fp wr wr' : List Addr} {k : Nat} {P Md : Nat → Value → Heap → Prop} {Sti : Nat → Heap → Prop} (K : KTurns c.prog c.w A target I fp wr k P Md Sti) (h1 : ∀ b ∈ wr, b ∈ wr') (h2 : ∀ b ∈ wr', b ∈ fp) :
    KTurns c.prog c.w A target I fp wr' k P Md Sti where
  sub := h2
  frame := K.frame
  item := fun i s Q E hi st hQ => K.item i s Q E hi st fun v h' tk hm hk => hQ v h' tk hm fun b o hb e => hk b o (fun q => hb (h1 b q)) e
  go := fun i v s Q E hm hQ => K.go i v s Q E hm fun h' hp st hk => hQ h' hp st fun b o hb e => hk b o (fun q => hb (h1 b q)) e
  done := fun s Q E st hQ => K.done s Q E st fun h' tk hk => hQ h' tk fun b o hb e => hk b o (fun q => hb (h1 b q)) e
noncomputable def enumL (vs : List AV) : List IV := vs.zipIdx.map fun p => .pair (.int p.2) p.1
noncomputable def zipL (xs ys : List AV) : List IV := (xs.zip ys).map fun p => .pair p.1 p.2
theorem it_enum {l : Addr} {ts : List Expr} {kk : Nat} {p : Pos} {xs : List AV} {σ0 : Hp} {Q : List IV → Hp → Hp → Prop} (hm : Pick σ l (.list xs) σ0) (h : Q (enumL xs) [(l, .list xs)] σ0) : TItB c n (.type "enumerate") [.ref l] σ m (.Tuple ts kk p) Q :=
  fun A F env ow s vs ha hs hv => by
    obtain ⟨v, rfl, e⟩ := VsRel.one hv
    have : v = .ref l := e
    subst this
    obtain ⟨items, nn, g1, r, l1, z1⟩ := hs.list hm.mem
    have hlt : l < s.heap.objs.size := Heap.lt_size g1
    refine call_enumerate_list l1 fun h' hE hI hsz hk => ?_
    refine wpAny_pyIter_enum hE ⟨_, _, _, h, ?_⟩
    have K := KT.ofWalksU (c := c) (elts := ts) (kk := kk) (pos := p) (WalksT.enumerate (prog := c.prog) (w := c.w) ha.hd (s.heap.objs.size + 1) s.heap.objs.size l (Nat.succ_ne_self _) (ktu_ne 1 hlt) (Nat.ne_of_lt hlt) items).toU (fun i h st b hb => by
      obtain ⟨⟨old, he⟩, ⟨oi, hoi, hic, hid⟩, _⟩ := st
      rcases List.mem_cons.mp hb with q | q
      · subst q; exact ⟨_, he, fun v q => by cases q⟩
      · rw [List.mem_singleton.mp q]; exact ⟨oi, hoi, fun v q => by rw [hid] at q; cases q⟩)
    have hs2 : St c F ((l, AO.list xs) :: σ0) env ow m { s with heap := h' } := (hs.keeps hk).perm hm.perm
    have hnew : ∀ b, s.heap.objs.size ≤ b → Off F ((l, AO.list xs) :: σ0) env ow b := fun b hb => off_new (hs.perm hm.perm) (Heap.get?_none_of_le hb)
    refine ⟨_, _, _, _, _, _, rfl, K.len (by simp [enumL, z1]), ⟨⟨.none, hE⟩, hI, l1.at fun o e => hk l o e⟩, hs2, fun b hb => ?_, fun b hb => ?_, fun i v h hPv => ?_⟩
    · rcases List.mem_cons.mp hb with q | q
      · subst q; exact hnew _ (Nat.le_succ _)
      · rw [List.mem_singleton.mp q]; exact hnew _ (Nat.le_refl _)
    · have hb' : b = s.heap.objs.size + 1 ∨ b = s.heap.objs.size ∨ b = l := by simpa using hb
      rcases hb' with q | q | q
      · exact .inl (by simp [q])
      · exact .inl (by simp [q])
      · exact .inr (by simp [q])
    · obtain ⟨T, vals, rfl, ⟨t, x, hx, rfl⟩, hT⟩ := hPv
      obtain ⟨a, e1, e2⟩ := r.back i (v := x) (by simpa using hx)
      exact ⟨.pair (.int i) a, by simp [enumL, e1], T, _, _, rfl, hT, ⟨t, rfl⟩, e2⟩
theorem it_zip {l1 l2 : Addr} {ts : List Expr} {kk : Nat} {p : Pos} {xs ys : List AV} {σ0 σ1 : Hp} {Q : List IV → Hp → Hp → Prop} (hm1 : Pick σ l1 (.list xs) σ1) (hm2 : Pick σ1 l2 (.list ys) σ0) (h : Q (zipL xs ys) [(l1, .list xs), (l2, .list ys)] σ0) : TItB c n (.type "zip") [.ref l1, .ref l2] σ m (.Tuple ts kk p) Q :=
  fun A F env ow s vs ha hs hv => by
    obtain ⟨v, w, rfl, e1, e2⟩ := VsRel.two hv
    have : v = .ref l1 := e1
    have : w = .ref l2 := e2
    subst v w
    have hP : ((l1, AO.list xs) :: (l2, AO.list ys) :: σ0).Perm σ := (hm2.perm.cons _).trans hm1.perm
    have hs' := hs.perm hP
    obtain ⟨i1, n1, g1, r1, L1, z1⟩ := hs'.list (l := l1) (.head _)
    obtain ⟨i2, n2, g2, r2, L2, z2⟩ := hs'.list (l := l2) (.tail _ (.head _))
    have hlt1 : l1 < s.heap.objs.size := Heap.lt_size g1
    have hlt2 : l2 < s.heap.objs.size := Heap.lt_size g2
    have D : ZipApart (s.heap.objs.size + 4) (s.heap.objs.size + 2) (s.heap.objs.size + 3) s.heap.objs.size (s.heap.objs.size + 1) l1 l2 := ktu_apart _ _ _ hlt1 hlt2
    refine call_zip_2 L1 L2 fun h' hz hTI hTO hi1 hi2 hsz hk => ?_
    refine wpAny_pyIter_zip hz ⟨_, _, _, h, ?_⟩
    have W := (WalksT.zip2 (prog := c.prog) (w := c.w) ha.hd _ _ _ _ _ _ _ D i1 i2).toU
    have K : KT c A (.Tuple ts kk p) _ _ [s.heap.objs.size + 4, s.heap.objs.size + 2, s.heap.objs.size + 3, s.heap.objs.size, s.heap.objs.size + 1] _ _ _ _ := ⟨KTurns.more (KTurns.ofWalksU W) (fun b hb => by simp at hb ⊢; rcases hb with q | q | q | q <;> simp [q]) (fun b hb => by simp at hb ⊢; rcases hb with q | q | q | q | q <;> simp [q]), W.self, fun i h st b hb => by
      obtain ⟨hz, hTI, ⟨a, b', hTO⟩, ⟨o1, ho1, hc1, hd1⟩, ⟨o2, ho2, hc2, hd2⟩, _⟩ := st
      have hb' : b = s.heap.objs.size + 4 ∨ b = s.heap.objs.size + 2 ∨ b = s.heap.objs.size + 3 ∨ b = s.heap.objs.size ∨ b = s.heap.objs.size + 1 := by simpa using hb
      rcases hb' with rfl | rfl | rfl | rfl | rfl
      · exact ⟨_, hz, fun v q => by cases q⟩
      · exact ⟨_, hTI, fun v q => by cases q⟩
      · exact ⟨_, hTO, fun v q => by cases q⟩
      · exact ⟨o1, ho1, fun v q => by rw [hd1] at q; cases q⟩
      · exact ⟨o2, ho2, fun v q => by rw [hd2] at q; cases q⟩⟩
    have hs2 : St c F ((l1, AO.list xs) :: (l2, AO.list ys) :: σ0) env ow m { s with heap := h' } := hs'.keeps hk
    have hnew : ∀ b, s.heap.objs.size ≤ b → Off F ((l1, AO.list xs) :: (l2, AO.list ys) :: σ0) env ow b := fun b hb => off_new hs' (Heap.get?_none_of_le hb)
    refine ⟨_, _, _, _, _, _, rfl, K.len (by simp [zipL, z1, z2]), ⟨hz, hTI, ⟨_, _, hTO⟩, hi1, hi2, L1.at fun o e => hk _ o e, L2.at fun o e => hk _ o e⟩, hs2, fun b hb => ?_, fun b hb => ?_, fun i v h hPv => ?_⟩
    · have hb' : b = s.heap.objs.size + 4 ∨ b = s.heap.objs.size + 2 ∨ b = s.heap.objs.size + 3 ∨ b = s.heap.objs.size ∨ b = s.heap.objs.size + 1 := by simpa using hb
      refine hnew _ ?_
      rcases hb' with q | q | q | q | q <;> rw [q] <;> first | exact Nat.le_add_right _ _ | exact Nat.le_refl _
    · have hb' : b = s.heap.objs.size + 4 ∨ b = s.heap.objs.size + 2 ∨ b = s.heap.objs.size + 3 ∨ b = s.heap.objs.size ∨ b = s.heap.objs.size + 1 ∨ b = l1 ∨ b = l2 := by simpa using hb
      rcases hb' with q | q | q | q | q | q | q
      · exact .inl (by simp [q])
      · exact .inl (by simp [q])
      · exact .inl (by simp [q])
      · exact .inl (by simp [q])
      · exact .inl (by simp [q])
      · exact .inr (by simp [q])
      · exact .inr (by simp [q])
    · obtain ⟨T, vals, rfl, ⟨x, y, hx, hy, rfl⟩, hT⟩ := hPv
      obtain ⟨a, e1, e2⟩ := r1.back i (v := x) (by simpa using hx)
      obtain ⟨b, e3, e4⟩ := r2.back i (v := y) (by simpa using hy)
      exact ⟨.pair a b, by
        have : (xs.zip ys)[i]? = some (a, b) := List.getElem?_zip_eq_some.mpr ⟨e1, e3⟩
        simp [zipL, this], T, _, _, rfl, hT, e2, e4⟩
end
section
variable {c : Cx} {n : Nat} {sc : Scope} {σ σ' Z : Hp} {m m' : Lm}

/-! comprehensions -/
theorem compLoop_any {A : Around} {s : Shared} {R : Result → Shared → Prop} {elt target iter : Expr} {ifs : List Expr} {scope : Scope} {pos : Pos} {it acc : Value} {env : Env} (I : Nat → Shared → Prop)
    (turn : ∀ k s, I k s → wpAny (model c.prog c.w) A (pyNext it) (fun r s₁ => match r with
      | none => R (.ok .next) s₁
      | some v => wpAny (model c.prog c.w) A (letOwnedTupleGo target it v) (fun _ s₁' => wpAny (model c.prog c.w) A (assign target env v) (fun _ s₂ =>
          wpAny (model c.prog c.w) A (forIn ifs true fun c r => if r = true then do let ok ← isTrue c env (eval c env); pure (ForInStep.yield ok) else pure (ForInStep.yield r)) (fun ok s₃ =>
            if ok = true then wpAny (model c.prog c.w) A (eval elt env) (fun x s₄ =>
              wpAny (model c.prog c.w) A (call (.builtin "list.append") [acc, x]) (fun _ s₅ => ∃ j, j < k ∧ I j s₅) (fun _ _ => False) s₄) (fun _ _ => False) s₃
            else ∃ j, j < k ∧ I j s₃) (fun _ _ => False) s₂) (fun _ _ => False) s₁') (fun _ _ => False) s₁) (fun _ _ => False) s)
    (k : Nat) (h : I k s) :
    codeAny (model c.prog c.w) A (.compLoop (.ListComp elt [⟨target, iter, ifs, 0⟩] scope pos) 0 it acc env) R s := by
  refine codeAny_loop rfl I (fun k s hI => ?_) k h
  show wpAny _ A ((compTurn (.ListComp elt [⟨target, iter, ifs, 0⟩] scope pos) 0 it acc env).onRaise (fun x => do noteFrame x env; theTreesLotGoes x)) _ _ s
  refine wpAny_noted (wpAny_mono (E := fun _ _ => False) ?_ (fun _ _ x => x) fun _ _ x => x.elim)
  rw [compTurn_list]
  refine wpAny_bind (wpAny_standAt (wpAny_bind (wpAny_mono (turn k s hI) (fun r s₁ h₁ => ?_) fun _ _ h' => h')))
  cases r with
  | none => exact wpAny_pure h₁
  | some v =>
    refine wpAny_bind (wpAny_mono h₁ (fun _ s₁' h₁' => ?_) fun _ _ h' => h')
    refine wpAny_bind (wpAny_mono h₁' (fun _ s₂ h₂ => wpAny_bind (wpAny_mono h₂ (fun ok s₃ h₃ => ?_) fun _ _ h' => h')) fun _ _ h' => h')
    cases ok with
    | false => exact wpAny_pure ⟨rfl, h₃⟩
    | true =>
      exact wpAny_bind (wpAny_bind (wpAny_mono h₃ (fun x s₄ h₄ => wpAny_bind (wpAny_mono h₄ (fun _ s₅ h₅ => wpAny_pure (wpAny_pure ⟨rfl, h₅⟩)) fun _ _ h' => h')) fun _ _ h' => h'))

noncomputable def TT (c : Cx) (n : Nat) (sc : Scope) (σ : Hp) (m : Lm) : List Expr → (Bool → Hp → Prop) → Prop
  | [], Q => Q true σ
  | [t], Q => TB c n sc σ m t Q
  | _, _ => False
theorem tt_run {ifs : List Expr} {Q : Bool → Hp → Prop} (h : TT c n sc σ m ifs Q) {A : Around} {F : Fx} {env : Env} {ow : List (Str × Addr)} {s : Shared} (ha : AOk n A) (he : EnvOk sc env ow) (hs : St c F σ env ow m s) :
    wpAny (model c.prog c.w) A (forIn ifs true fun c r => if r = true then do let ok ← isTrue c env (eval c env); pure (ForInStep.yield ok) else pure (ForInStep.yield r)) (PB c Q F env ow m) (fun _ _ => False) s := by
  match ifs, h with
  | [], h => exact wpAny_tests_nil ⟨σ, h, hs⟩
  | [t], h => exact wpAny_tests_one (h A F env ow s ha he hs)

/-- what the scope of a comprehension must be over the scope of its frame -/
noncomputable def compOk (sc scope : Scope) : Bool :=
  (scope.names.all fun p => p.2 != .cell && (p.2 != .free || (scope.names.lookup p.1 == some .free && sc.names.lookup p.1 == some .cell)) && (p.2 != .local || scope.names.lookup p.1 == some .local)) && scope.kind == .function
noncomputable def compM (scope : Scope) (m : Lm) : Lm := fun x => if scope.names.lookup x == some .free then m x else none

noncomputable def closC (env : Env) : List (Str × NameKind) → List (Str × Addr) → List (Str × Addr)
  | [], acc => acc
  | (x, k) :: r, acc => closC env r (if k == .free then (x, (env.cells.lookup x).getD 0) :: acc else acc)
theorem closureFor_eq {scope : Scope} {env : Env} (h : ∀ p ∈ scope.names, p.2 = .free → ∃ a, env.cells.lookup p.1 = some a) : closureFor scope env = pure (closC env scope.names []) := by
  unfold closureFor
  suffices H : ∀ (l : List (Str × NameKind)) (acc : List (Str × Addr)), (∀ p ∈ l, p.2 = .free → ∃ a, env.cells.lookup p.1 = some a) →
      (forIn l acc fun x cs => match x with | (name, kind) => if (kind == .free) = true then (do let a ← cellOf env name; pure (ForInStep.yield ((name, a) :: cs))) else pure (ForInStep.yield cs)) = (pure (closC env l acc) : Sem (List (Str × Addr))) by
    have := H scope.names [] h
    first
      | exact congrArg (fun t : Sem (List (Str × Addr)) => t >>= pure) this
      | (rw [this]; rfl)
      | (simp only [this, pure_bind])
  intro l
  induction l with
  | nil => intro acc _; rfl
  | cons p r ih =>
    intro acc hp
    obtain ⟨x, k⟩ := p
    rw [List.forIn_cons]
    unfold closC
    cases hk : k == NameKind.free with
    | false => simp only [hk, Bool.false_eq_true, if_false]; exact ih acc fun q hq => hp q (.tail _ hq)
    | true =>
      obtain ⟨a, e⟩ := hp (x, k) (.head _) (beq_iff_eq.mp hk)
      simp only [hk, if_true]
      have : cellOf env x = pure a := by unfold cellOf; rw [e]
      rw [this, e]
      exact ih _ fun q hq => hp q (.tail _ hq)
theorem closC_look {env : Env} {x : Str} : ∀ (l : List (Str × NameKind)) (acc : List (Str × Addr)), (∀ y a, acc.lookup y = some a → env.cells.lookup y = some a) → (∀ p ∈ l, p.2 = .free → ∃ a, env.cells.lookup p.1 = some a) →
    ((x, NameKind.free) ∈ l ∨ (acc.lookup x).isSome = true) → (closC env l acc).lookup x = env.cells.lookup x
  | [], acc, h1, h2, h3 => by
    rcases h3 with q | q
    · cases q
    · obtain ⟨a, e⟩ := Option.isSome_iff_exists.mp q
      exact e.trans (h1 x a e).symm
  | (y, k) :: r, acc, h1, h2, h3 => by
    unfold closC
    have h2' : ∀ p ∈ r, p.2 = .free → ∃ a, env.cells.lookup p.1 = some a := fun q hq => h2 q (.tail _ hq)
    cases hk : k == NameKind.free with
    | false =>
      simp only [Bool.false_eq_true, if_false]
      refine closC_look r acc h1 h2' ?_
      rcases h3 with q | q
      · rcases List.mem_cons.mp q with e | q
        · cases e; simp at hk
        · exact .inl q
      · exact .inr q
    | true =>
      obtain ⟨a, e⟩ := h2 (y, k) (.head _) (beq_iff_eq.mp hk)
      simp only [if_true, show (env.cells.lookup y).getD 0 = a by rw [show env.cells.lookup y = some a from e]; rfl]
      refine closC_look r _ (fun z b hz => ?_) h2' ?_
      · rw [List.lookup_cons] at hz
        split at hz
        · rename_i q; rw [beq_iff_eq.mp q]; cases hz; exact e
        · exact h1 z b hz
      · rcases h3 with q | q
        · rcases List.mem_cons.mp q with e' | q
          · cases e'; exact .inr (by rw [List.lookup_cons]; simp)
          · exact .inl q
        · refine .inr ?_
          rw [List.lookup_cons]
          split
          · rfl
          · exact q
theorem lookup_map {g : Str → NameKind → NameKind} {x : Str} : ∀ (l : List (Str × NameKind)), (l.map fun p => (p.1, g p.1 p.2)).lookup x = (l.lookup x).map (g x)
  | [] => rfl
  | (y, k) :: r => by
    rw [List.map_cons, List.lookup_cons, List.lookup_cons]
    cases h : x == y with
    | true => rw [beq_iff_eq.mp h]; rfl
    | false => exact lookup_map r
theorem relabel_look {scope : Scope} {env : Env} {x : Str} : (relabel scope env).names.lookup x = (scope.names.lookup x).map fun k => if (k == .free && env.scope.kind == .function && env.kindOf x == some .cell) then .cell else k := by
  have : (relabel scope env).names = scope.names.map fun p => (p.1, if (p.2 == .free && env.scope.kind == .function && env.kindOf p.1 == some .cell) then .cell else p.2) := by
    unfold relabel
    dsimp only
    refine List.map_congr_left fun p _ => ?_
    obtain ⟨y, k⟩ := p
    dsimp only
    split <;> rfl
  rw [this]
  exact lookup_map (g := fun y k => if (k == .free && env.scope.kind == .function && env.kindOf y == some .cell) then .cell else k) scope.names
theorem mem_of_look {x : Str} {k : NameKind} : ∀ {l : List (Str × NameKind)}, l.lookup x = some k → (x, k) ∈ l
  | (y, j) :: r, h => by
    rw [List.lookup_cons] at h
    split at h
    · rename_i q; rw [beq_iff_eq.mp q]; cases h; exact .head _
    · exact .tail _ (mem_of_look h)
end
section
variable {c : Cx} {n : Nat} {sc : Scope} {σ σ' σ0 Z : Hp} {m m' : Lm} {F : Fx} {env : Env} {ow : List (Str × Addr)} {s s2 s' : Shared} {wr : List Addr}

noncomputable def Fi (wr : List Addr) (σ0 : Hp) (h : Heap) : Fx := fun b => if b ∈ wr then none else if b ∈ σ0.map (·.1) then none else h.get? b
theorem Fi_some {h : Heap} {b : Addr} {o : Obj} (h1 : b ∉ wr) (h2 : b ∉ σ0.map (·.1)) (e : h.get? b = some o) : Fi wr σ0 h b = some o := by
  unfold Fi; rw [if_neg h1, if_neg h2]; exact e
theorem Fi_get {h : Heap} {b : Addr} {o : Obj} (e : Fi wr σ0 h b = some o) : b ∉ wr ∧ b ∉ σ0.map (·.1) ∧ h.get? b = some o := by
  unfold Fi at e
  split at e
  · cases e
  · split at e
    · cases e
    · exact ⟨‹_›, ‹_›, e⟩

structure CompS (sc scope : Scope) : Prop where
  nocell : ∀ p ∈ scope.names, p.2 ≠ .cell
  free : ∀ p ∈ scope.names, p.2 = .free → scope.names.lookup p.1 = some .free ∧ sc.names.lookup p.1 = some .cell
  loc : ∀ p ∈ scope.names, p.2 = .local → scope.names.lookup p.1 = some .local
  kind : scope.kind = .function
theorem compOk_spec {scope : Scope} (h : compOk sc scope = true) : CompS sc scope := by
  unfold compOk at h
  simp only [Bool.and_eq_true, beq_iff_eq] at h
  obtain ⟨h1, h2⟩ := h
  have H := List.all_eq_true.mp h1
  refine ⟨fun p hp => ?_, fun p hp q => ?_, fun p hp q => ?_, h2⟩
  · have := H p hp
    simp only [Bool.and_eq_true, bne_iff_ne, ne_eq] at this
    exact this.1.1
  · have := H p hp
    simp only [Bool.and_eq_true, Bool.or_eq_true, bne_iff_ne, ne_eq, beq_iff_eq] at this
    exact this.1.2.resolve_left fun z => z q
  · have := H p hp
    simp only [Bool.and_eq_true, Bool.or_eq_true, bne_iff_ne, ne_eq, beq_iff_eq] at this
    exact this.2.resolve_left fun z => z q

noncomputable def compE (scope : Scope) (C : Addr) (env : Env) : Env := { scope := relabel scope env, locals := C, globals := env.globals, cells := closC env scope.names [], qual := env.qual, func := none, code := env.code, frame := env.frame, builtins := env.builtins }

theorem comp_cells {scope : Scope} (hc : CompS sc scope) (he : EnvOk sc env ow) : ∀ p ∈ scope.names, p.2 = .free → ∃ a, env.cells.lookup p.1 = some a := fun p hp q => by
  obtain ⟨_, a, e, _⟩ := he.ce _ (hc.free p hp q).2
  exact ⟨a, e⟩
theorem comp_kind {scope : Scope} (hc : CompS sc scope) (he : EnvOk sc env ow) {C : Addr} {x : Str} (hx : scope.names.lookup x = some .free) : (compE scope C env).kindOf x = some .cell := by
  show (relabel scope env).names.lookup x = _
  rw [relabel_look, hx]
  have := (he.ce _ (hc.free _ (mem_of_look hx) rfl).2).1
  simp [this, he.kind]
theorem comp_other {scope : Scope} {C : Addr} {x : Str} {k : NameKind} (hx : scope.names.lookup x = some k) (hk : k ≠ .free) : (compE scope C env).kindOf x = some k := by
  show (relabel scope env).names.lookup x = _
  rw [relabel_look, hx]
  simp [hk]
theorem comp_env {scope : Scope} (hc : CompS sc scope) (he : EnvOk sc env ow) {C : Addr} : EnvOk scope (compE scope C env) [] where
  kind := hc.kind
  gl := fun x hx => comp_other hx (by decide)
  lo := fun x hx => comp_other hx (by decide)
  ce := fun x hx => absurd rfl (hc.nocell _ (mem_of_look hx))
  globals := he.globals
  builtins := he.builtins
theorem compM_some {scope : Scope} {x : Str} {v : AV} (h : compM scope m x = some v) : scope.names.lookup x = some .free ∧ m x = some v := by
  unfold compM at h
  split at h
  · exact ⟨beq_iff_eq.mp ‹_›, h⟩
  · cases h

/-- the captured names are fixed -/
theorem comp_cl {scope : Scope} (hc : CompS sc scope) (he : EnvOk sc env ow) (hs2 : St c F (Z ++ σ0) env ow m s2) (hoff : ∀ b ∈ wr, Off F (Z ++ σ0) env ow b) {C : Addr} :
    ∀ x v, compM scope m x = some v → ∃ a vv o, (compE scope C env).kindOf x = some .cell ∧ (compE scope C env).cells.lookup x = some a ∧ Fi wr σ0 s2.heap a = some o ∧ o.data = .cell (some vv) ∧ v.rel c vv := fun x v hx => by
  obtain ⟨h1, h2⟩ := compM_some hx
  have hfree := hc.free _ (mem_of_look h1) rfl
  have hce := he.ce _ hfree.2
  have hσ : ∀ b, b ∈ σ0.map (·.1) → b ∈ (Z ++ σ0).map (·.1) := fun b hb => by rw [List.map_append]; exact List.mem_append_right _ hb
  rcases hs2.f.cl x v h2 with q | ⟨a, vv, o, q1, q2, q3, q4, q5, q6⟩
  · have e1 : env.kindOf x = some .cell := hce.1
    rw [q] at e1; cases e1
  · refine ⟨a, vv, o, comp_kind hc he h1, ?_, ?_, q4, q5⟩
    · show (closC env scope.names []).lookup x = _
      rw [closC_look scope.names [] (fun _ _ e => by cases e) (comp_cells hc he) (.inl (mem_of_look h1))]; exact q2
    · refine Fi_some (fun q => ?_) (fun q => ?_) q3
      · rcases q6 with e | e
        · rw [(hoff a q).1] at e; cases e
        · exact (hoff a q).2.2.2 _ e
      · rcases q6 with e | e
        · rw [hs2.r.keyFree (hσ a q)] at e; cases e
        · exact (hs2.f.owd _ _ e).2.1 (hσ a q)

theorem St.inner {scope : Scope} (hc : CompS sc scope) (he : EnvOk sc env ow) (hs2 : St c F (Z ++ σ0) env ow m s2) (hoff : ∀ b ∈ wr, Off F (Z ++ σ0) env ow b) {C : Addr} {h4 : Heap} {tk : Nat} {mC : Str → Option Value}
    (hk : ∀ b o, s2.heap.get? b = some o → h4.get? b = some o) (hC : s2.heap.objs.size ≤ C) (hn : h4.Ns C mC) : St c (Fi wr σ0 s2.heap) σ0 (compE scope C env) [] (compM scope m) { s2 with heap := h4, toks := tk } := by
  have hσ : ∀ b, b ∈ σ0.map (·.1) → b ∈ (Z ++ σ0).map (·.1) := fun b hb => by rw [List.map_append]; exact List.mem_append_right _ hb
  have hCn : s2.heap.get? C = none := Heap.get?_none_of_le hC
  have nd := hs2.r.nd
  rw [List.map_append, List.nodup_append] at nd
  refine ⟨⟨fun b o e => ?_, fun b o e => hk _ _ (Fi_get e).2.2, fun p hp => ?_, nd.2.1, hs2.r.os, hs2.r.gens⟩, ⟨⟨mC, hn, fun x v hx k => ?_⟩, fun x v hx => ?_, ?_, fun q => ?_, ?_, fun x a h => (by cases h), fun x y a h => (by cases h)⟩⟩
  · have hF := hs2.r.base b o e
    refine Fi_some (fun q => ?_) (fun q => ?_) (hs2.r.fix b o hF)
    · rw [(hoff b q).1] at hF; cases hF
    · rw [hs2.r.keyFree (hσ b q)] at hF; cases hF
  · obtain ⟨h1, ob, h2, h3⟩ := hs2.r.cell p (List.mem_append_right _ hp)
    refine ⟨?_, ob, hk _ _ h2, h3⟩
    unfold Fi
    split
    · rfl
    · rw [if_pos (List.mem_map_of_mem hp)]
  · obtain ⟨a, vv, o, e1, _⟩ := comp_cl hc he hs2 hoff (C := C) x v hx
    rw [e1] at k; cases k
  · obtain ⟨a, vv, o, e1, e2, e3, e4, e5⟩ := comp_cl hc he hs2 hoff (C := C) x v hx
    exact .inr ⟨a, vv, o, .inl e1, e2, hk _ _ (Fi_get e3).2.2, e4, e5, .inl e3⟩
  · show Fi wr σ0 s2.heap C = none
    cases e : Fi wr σ0 s2.heap C with
    | none => rfl
    | some o => have := (Fi_get e).2.2; rw [hCn] at this; cases this
  · obtain ⟨o, e⟩ := hs2.r.keyLive (hσ _ q)
    have : s2.heap.get? C = some o := e
    rw [hCn] at this; cases this
  · obtain ⟨mm, h1, _⟩ := hs2.f.ns
    exact Nat.le_trans hs2.f.above (Nat.le_trans (Nat.le_of_lt h1.lt) hC)
theorem St.again {scope : Scope} (hc : CompS sc scope) (he : EnvOk sc env ow) (hs2 : St c F (Z ++ σ0) env ow m s2) (hoff : ∀ b ∈ wr, Off F (Z ++ σ0) env ow b) {C : Addr}
    (h1 : St c (Fi wr σ0 s2.heap) σ (compE scope C env) [] m' s') : St c (Fi wr σ0 s2.heap) σ (compE scope C env) [] (compM scope m) s' := by
  refine ⟨h1.r, ⟨?_, fun x v hx => ?_, h1.f.free, h1.f.off, h1.f.above, h1.f.owd, h1.f.ownd⟩⟩
  · obtain ⟨mm, g, _⟩ := h1.f.ns
    refine ⟨mm, g, fun x v hx k => ?_⟩
    obtain ⟨a, vv, o, e1, _⟩ := comp_cl hc he hs2 hoff (C := C) x v hx
    rw [e1] at k; cases k
  · obtain ⟨a, vv, o, e1, e2, e3, e4, e5⟩ := comp_cl hc he hs2 hoff (C := C) x v hx
    exact .inr ⟨a, vv, o, .inl e1, e2, h1.r.fix _ _ e3, e4, e5, .inl e3⟩
theorem St.outer (hs2 : St c F (Z ++ σ0) env ow m s2) (hoff : ∀ b ∈ wr, Off F (Z ++ σ0) env ow b) {cenv : Env} {ow' : List (Str × Addr)} (h1 : St c (Fi wr σ0 s2.heap) σ cenv ow' m' s') : St c F (Z ++ σ) env ow m s' := by
  have hσ : ∀ b, b ∈ σ0.map (·.1) → b ∈ (Z ++ σ0).map (·.1) := fun b hb => by rw [List.map_append]; exact List.mem_append_right _ hb
  have hZ : ∀ b, b ∈ Z.map (·.1) → b ∈ (Z ++ σ0).map (·.1) := fun b hb => by rw [List.map_append]; exact List.mem_append_left _ hb
  have nd := hs2.r.nd
  rw [List.map_append, List.nodup_append] at nd
  have keep : ∀ b o, b ∉ wr → b ∉ σ0.map (·.1) → s2.heap.get? b = some o → s'.heap.get? b = some o ∧ b ∉ σ.map (·.1) := fun b o q1 q2 e => by
    have := Fi_some q1 q2 e
    exact ⟨h1.r.fix _ _ this, fun q => (by rw [h1.r.keyFree q] at this; cases this)⟩
  have offF : ∀ b o, F b = some o → b ∉ wr ∧ b ∉ σ0.map (·.1) := fun b o e => ⟨fun q => (by rw [(hoff b q).1] at e; cases e), fun q => (by rw [hs2.r.keyFree (hσ b q)] at e; cases e)⟩
  have offL : env.locals ∉ wr ∧ env.locals ∉ σ0.map (·.1) := ⟨fun q => (hoff _ q).2.2.1 rfl, fun q => hs2.f.off (hσ _ q)⟩
  have offO : ∀ x a, ow.lookup x = some a → a ∉ wr ∧ a ∉ σ0.map (·.1) := fun x a e => ⟨fun q => (hoff a q).2.2.2 _ e, fun q => (hs2.f.owd x a e).2.1 (hσ a q)⟩
  have offZ : ∀ p ∈ Z, p.1 ∉ wr ∧ p.1 ∉ σ0.map (·.1) := fun p hp => ⟨fun q => (hoff _ q).2.1 (hZ _ (List.mem_map_of_mem hp)), fun q => nd.2.2 _ (List.mem_map_of_mem hp) _ q rfl⟩
  refine ⟨⟨hs2.r.base, fun b o e => (keep b o (offF b o e).1 (offF b o e).2 (hs2.r.fix b o e)).1, fun p hp => ?_, ?_, h1.r.os, h1.r.gens⟩, ⟨?_, fun x v hx => ?_, hs2.f.free, fun q => ?_, hs2.f.above, fun x a hp => ?_, hs2.f.ownd⟩⟩
  · rcases List.mem_append.mp hp with hp | hp
    · obtain ⟨g1, ob, g2, g3⟩ := hs2.r.cell p (List.mem_append_left _ hp)
      exact ⟨g1, ob, (keep _ _ (offZ p hp).1 (offZ p hp).2 g2).1, g3⟩
    · obtain ⟨g1, g2⟩ := h1.r.cell p hp
      refine ⟨?_, g2⟩
      cases e : F p.1 with
      | none => rfl
      | some o => exact absurd (List.mem_map_of_mem (f := (·.1)) hp) (keep _ o (offF _ o e).1 (offF _ o e).2 (hs2.r.fix _ o e)).2
  · rw [List.map_append, List.nodup_append]
    refine ⟨nd.1, h1.r.nd, fun a ha b hb e => ?_⟩
    subst e
    obtain ⟨p, hp, rfl⟩ := List.mem_map.mp ha
    obtain ⟨g1, ob, g2, g3⟩ := hs2.r.cell p (List.mem_append_left _ hp)
    exact (keep _ ob (offZ p hp).1 (offZ p hp).2 g2).2 hb
  · obtain ⟨mm, g1, g2⟩ := hs2.f.ns
    exact ⟨mm, g1.at' fun o e => (keep _ o offL.1 offL.2 e).1, g2⟩
  · rcases hs2.f.cl x v hx with q | ⟨a, vv, o, q1, q2, q3, q4, q5, q6⟩
    · exact .inl q
    · refine .inr ⟨a, vv, o, q1, q2, ?_, q4, q5, q6⟩
      rcases q6 with e | e
      · exact (keep a o (offF a o e).1 (offF a o e).2 q3).1
      · exact (keep a o (offO x a e).1 (offO x a e).2 q3).1
  · rw [List.map_append] at q
    rcases List.mem_append.mp q with q | q
    · exact hs2.f.off (hZ _ q)
    · obtain ⟨mm, ⟨o, _, _, e, _⟩, _⟩ := hs2.f.ns
      exact (keep _ o offL.1 offL.2 e).2 q
  · obtain ⟨a1, a2, a3, o, v, a4, a5⟩ := hs2.f.owd x a hp
    refine ⟨a1, fun q => ?_, a3, o, v, (keep a o (offO x a hp).1 (offO x a hp).2 a4).1, a5⟩
    rw [List.map_append] at q
    rcases List.mem_append.mp q with q | q
    · exact a2 (hZ _ q)
    · exact (keep a o (offO x a hp).1 (offO x a hp).2 a4).2 q

noncomputable def CompT (c : Cx) (n : Nat) (scope : Scope) (m : Lm) (elt target : Expr) (ifs : List Expr) (xs : List IV) (Z σ0 : Hp) (R : List AV → Hp → Prop) : Prop :=
  ∃ J : Nat → Hp → List AV → Prop, J 0 σ0 [] ∧ xs.length ≤ 100000 ∧
    (∀ i iv σ acc, xs[i]? = some iv → J i σ acc → TV c n scope σ (compM scope m) target iv fun σ' m' => TT c n scope σ' m' ifs fun ok σ'' => (ok = false → J (i + 1) σ'' acc) ∧ (ok = true → TE c n scope σ'' m' elt fun v σ3 => J (i + 1) σ3 (acc ++ [v]))) ∧
    ∀ σ acc, J xs.length σ acc → R acc (Z ++ σ)

theorem comp_done {scope : Scope} {D : Addr} {acc : List AV} {ys : Array Value} {nn : Nat} (hs2 : St c F (Z ++ σ0) env ow m s2) (hDn : s2.heap.get? D = none) (hCn : s2.heap.get? (D + 1) = none)
    (hoff : ∀ b ∈ wr, Off F (Z ++ σ0) env ow b) (hs1 : St c (Fi wr σ0 s2.heap) σ (compE scope (D + 1) env) [] (compM scope m) s') (hDo : Off (Fi wr σ0 s2.heap) σ (compE scope (D + 1) env) [] D) (hD1 : s'.heap.get? D = some (listOf ys nn)) (hr : VsRel c acc ys.toList) :
    St c F ((D, .list acc) :: (Z ++ σ)) env ow m s' ∧ Off F ((D, .list acc) :: (Z ++ σ)) env ow (D + 1) ∧ ∃ mC, s'.heap.Ns (D + 1) mC := by
  have ho1 := hs2.outer hoff hs1
  have hnewoff : ∀ b, s2.heap.get? b = none → b ∉ σ.map (·.1) → Off F (Z ++ σ) env ow b := fun b hb hbσ => by
    obtain ⟨h1, h2, h3⟩ := off_new hs2 hb
    refine ⟨h1, fun q => ?_, h3⟩
    rw [List.map_append] at q h2
    rcases List.mem_append.mp q with q | q
    · exact h2 (List.mem_append_left _ q)
    · exact hbσ q
  have hDf := hnewoff D hDn hDo.2.1
  have hCf := hnewoff (D + 1) hCn hs1.f.off
  refine ⟨⟨⟨ho1.r.base, ho1.r.fix, fun p hp => ?_, ?_, ho1.r.os, ho1.r.gens⟩, ⟨ho1.f.ns, ho1.f.cl, ho1.f.free, ?_, ho1.f.above, fun x b hp => ?_, ho1.f.ownd⟩⟩, ⟨hCf.1, fun q => ?_, hCf.2.2⟩, hs1.f.ns.imp fun mm h => h.1⟩
  · rcases List.mem_cons.mp hp with rfl | hp
    · exact ⟨hDf.1, _, hD1, ys, nn, rfl, hr⟩
    · exact ho1.r.cell p hp
  · rw [List.map_cons]; exact List.nodup_cons.mpr ⟨hDf.2.1, ho1.r.nd⟩
  · rw [List.map_cons]
    intro q
    rcases List.mem_cons.mp q with q | q
    · exact hDf.2.2.1 q.symm
    · exact ho1.f.off q
  · obtain ⟨a1, a2, a3⟩ := ho1.f.owd x b hp
    refine ⟨a1, fun q => ?_, a3⟩
    rw [List.map_cons] at q
    rcases List.mem_cons.mp q with q | q
    · exact hDf.2.2.2 x (by rw [hp]; exact congrArg some q)
    · exact a2 q
  · rw [List.map_cons] at q
    rcases List.mem_cons.mp q with q | q
    · exact absurd q (Nat.succ_ne_self D)
    · exact hCf.2.1 q
theorem comp_facts {scope : Scope} {D : Addr} (hs2 : St c F (Z ++ σ0) env ow m s2) (hDn : s2.heap.get? D = none) (hoff : ∀ b ∈ wr, Off F (Z ++ σ0) env ow b) (hwl : ∀ b ∈ wr, @LT.lt Nat _ b D) :
    Off (Fi wr σ0 s2.heap) σ0 (compE scope (D + 1) env) [] D ∧ (∀ b ∈ wr, Off (Fi wr σ0 s2.heap) σ0 (compE scope (D + 1) env) [] b) ∧ ∀ b, b ∈ Z.map (·.1) → ∃ o, Fi wr σ0 s2.heap b = some o := by
  refine ⟨⟨?_, fun q => ?_, Nat.ne_of_lt (Nat.lt_succ_self D), fun x q => by cases q⟩, fun b hb => ?_, fun b q => ?_⟩
  · cases q : Fi wr σ0 s2.heap D with
    | none => rfl
    | some o => have := (Fi_get q).2.2; rw [hDn] at this; cases this
  · obtain ⟨o, e⟩ := hs2.r.keyLive (a := D) (by rw [List.map_append]; exact List.mem_append_right _ q)
    rw [hDn] at e; cases e
  · refine ⟨by unfold Fi; rw [if_pos hb], fun q => (hoff b hb).2.1 (by rw [List.map_append]; exact List.mem_append_right _ q), ?_, fun x q => by cases q⟩
    exact Nat.ne_of_lt (Nat.lt_succ_of_lt (hwl b hb))
  · obtain ⟨p, hp, rfl⟩ := List.mem_map.mp q
    obtain ⟨g1, ob, g2, g3⟩ := hs2.r.cell p (List.mem_append_left _ hp)
    have nd := hs2.r.nd
    rw [List.map_append, List.nodup_append] at nd
    exact ⟨ob, Fi_some (fun z => (hoff _ z).2.1 (by rw [List.map_append]; exact List.mem_append_left _ q)) (fun z => nd.2.2 _ q _ z rfl) g2⟩
noncomputable abbrev CInv (c : Cx) (J : Nat → Hp → List AV → Prop) (N : Nat) (Sti : Nat → Heap → Prop) (G : Fx) (env : Env) (ow : List (Str × Addr)) (m : Lm) (wr : List Addr) (D : Addr) (k : Nat) (s' : Shared) : Prop :=
  ∃ i σ acc ys nn, J i σ acc ∧ i ≤ N ∧ k = N + 1 - i ∧ Sti i s'.heap ∧ St c G σ env ow m s' ∧ (∀ b ∈ wr, Off G σ env ow b) ∧ s'.heap.get? D = some (listOf ys nn) ∧ VsRel c acc ys.toList ∧ Off G σ env ow D
theorem comp_core {elt target iter : Expr} {ifs : List Expr} {scope : Scope} {pos pos' : Pos} {use : Option (Value → Sem Unit)} {Qp : Value → Shared → Prop} {R : List AV → Hp → Prop} (hc : CompS sc scope)
    (h : TIt c n sc σ m iter target fun xs Z σ0 => CompT c n scope m elt target ifs xs Z σ0 R)
    {A : Around} (ha : AOk n A) (he : EnvOk sc env ow) (hs : St c F σ env ow m s) (hfs : ∀ x, foldedSetIterable iter env x = pure x)
    (hfin : ∀ D C acc σe s', R acc σe → St c F ((D, .list acc) :: σe) env ow m s' → Off F ((D, .list acc) :: σe) env ow C → (∃ mC, s'.heap.Ns C mC) → compPost (model c.prog c.w) A (fun _ _ => False) use Qp (.ref D) C (.ok .next) s') :
    wpAny (model c.prog c.w) A (comprehension (.ListComp elt [⟨target, iter, ifs, 0⟩] scope pos) scope env pos' (newList []) false (eval iter env) use) Qp (fun _ _ => False) s := by
  refine wpAny_comprehension_free rfl hfs (closureFor_eq (comp_cells hc he)) hc.kind hc.loc (wpAny_mono (h A F env ow s ha he hs) (fun xv s1 h1 => wpAny_mono h1 (fun it s2 h2 => ?_) fun _ _ x => x.elim) fun _ _ x => x.elim)
  obtain ⟨xs, Z, σ0, ⟨J, hJ0, hlen, turn, hend⟩, I, fp, wr, P, Md, Sti, rfl, W, hst, hs2, hoff, hfp, hP⟩ := h2
  refine wpAny_newObj_type (wpAny_newFunctionEnv hc.nocell (fun _ hx => by cases hx) (fun h4 hns4 hsb4 => ?_) hc.kind)
  dsimp only at hns4 hsb4 ⊢
  generalize hD : s2.heap.objs.size = D at *
  have hsz3 : (s2.heap.push { cls := .type "list", data := .seq ([] : List Value).toArray }).objs.size = D + 1 := by rw [Heap.size_push, hD]
  rw [hsz3] at hns4 hsb4 ⊢
  have ltD : ∀ b o, s2.heap.get? b = some o → @LT.lt Nat _ b D := fun b o e => hD ▸ Heap.lt_size e
  have k3 : ∀ b o, s2.heap.get? b = some o → (s2.heap.push { cls := .type "list", data := .seq ([] : List Value).toArray }).get? b = some o := fun b o e => Heap.get?_push_of_some _ e
  have k4 : ∀ b o, b ≠ D + 1 → (s2.heap.push { cls := .type "list", data := .seq ([] : List Value).toArray }).get? b = some o → h4.get? b = some o := fun b o hb e => hsb4.extBut b o hb (Heap.get?_push_of_some _ e)
  have hk : ∀ b o, s2.heap.get? b = some o → h4.get? b = some o := fun b o e => k4 b o (Nat.ne_of_lt (Nat.lt_succ_of_lt (ltD b o e))) (k3 b o e)
  have hDobj : h4.get? D = some (listOf #[] 0) := k4 D _ (Nat.ne_of_lt (Nat.lt_succ_self D)) (by rw [← hD]; exact Heap.get?_push_size _ rfl)
  have hDn : s2.heap.get? D = none := Heap.get?_none_of_le (Nat.le_of_eq hD)
  have hCn : s2.heap.get? (D + 1) = none := Heap.get?_none_of_le (by rw [hD]; exact Nat.le_succ D)
  show codeAny _ A (.compStart _ 0 (.ref I) (.ref D) (compE scope (D + 1) env)) _ { s2 with heap := h4, toks := s2.toks + 0 }
  have hin := hs2.inner hc he hoff (C := D + 1) (tk := s2.toks + 0) hk (by rw [hD]; exact Nat.le_succ D) hns4
  have hwl : ∀ b ∈ wr, @LT.lt Nat _ b D := fun b hb => by
    obtain ⟨o, e, _⟩ := W.live _ _ hst b hb
    exact ltD b o e
  obtain ⟨hDoff, hwoff, hZF⟩ := comp_facts (scope := scope) hs2 hDn hoff hwl
  have hst4 : Sti 0 h4 := W.k.frame _ _ _ hst fun b _ o e => hk b o e
  have loop : codeAny (model c.prog c.w) A (.compLoop (.ListComp elt [⟨target, iter, ifs, 0⟩] scope pos) 0 (.ref I) (.ref D) (compE scope (D + 1) env)) (compPost (model c.prog c.w) A (fun _ _ => False) use Qp (.ref D) (D + 1)) { s2 with heap := h4, toks := s2.toks + 0 } := by
    refine compLoop_any (CInv c (fun i σ acc => J i σ acc ∧ acc.length ≤ i) xs.length Sti (Fi wr σ0 s2.heap) (compE scope (D + 1) env) [] (compM scope m) wr D) ?_ (xs.length + 1)
      ⟨0, σ0, [], #[], 0, ⟨hJ0, Nat.le_refl _⟩, Nat.zero_le _, rfl, hst4, hin, hwoff, hDobj, trivial, hDoff⟩
    rintro k s' ⟨i, σ, acc, ys, nn, ⟨hJ, hacc⟩, hi, rfl, hst', hs', hoff', hD', hr', hDo'⟩
    have hDw : D ∉ wr := fun q => Nat.lt_irrefl _ (hwl D q)
    by_cases hlt : i < xs.length
    · refine W.k.item i _ _ _ hlt hst' fun v h1 tk1 hMd hk1 => ?_
      refine W.k.go i v _ _ _ hMd fun h2 hPv hst2 hk2 => ?_
      have hkk : ∀ b o, b ∉ wr → s'.heap.get? b = some o → h2.get? b = some o := fun b o hb e => hk2 b o hb (hk1 b o hb e)
      have hs3 : St c (Fi wr σ0 s2.heap) σ (compE scope (D + 1) env) [] (compM scope m) { s' with heap := h2, toks := tk1 } := hs'.keepsOff hoff' hkk
      have hD3 : h2.get? D = some (listOf ys nn) := hkk D _ hDw hD'
      obtain ⟨iv, hiv, hrel⟩ := hP i v h2 hPv
      have hoffD : ∀ b ∈ D :: wr, Off (Fi wr σ0 s2.heap) σ (compE scope (D + 1) env) [] b := fun b hb => (List.mem_cons.mp hb).elim (fun e => e ▸ hDo') (hoff' b)
      have hlive : ∀ b ∈ D :: wr, ∃ o, h2.get? b = some o ∧ ∀ v, o.data ≠ .cell v := fun b hb => (List.mem_cons.mp hb).elim (fun e => ⟨_, e ▸ hD3, fun v q => (by cases q)⟩) (W.live _ _ hst2 b)
      have hs4 := hs3.protect hoffD
      have fin : ∀ (s6 : Shared) (σ6 : Hp) (m6 : Lm), St c (pr (Fi wr σ0 s2.heap) (D :: wr) h2) σ6 (compE scope (D + 1) env) [] m6 s6 →
          St c (Fi wr σ0 s2.heap) σ6 (compE scope (D + 1) env) [] (compM scope m) s6 ∧ (∀ b ∈ wr, Off (Fi wr σ0 s2.heap) σ6 (compE scope (D + 1) env) [] b) ∧ Off (Fi wr σ0 s2.heap) σ6 (compE scope (D + 1) env) [] D ∧ Sti (i + 1) s6.heap ∧ s6.heap.get? D = some (listOf ys nn) := fun s6 σ6 m6 hs6 => by
        obtain ⟨hs7, hoff7⟩ := hs3.unprotect hoffD hlive hs6
        have prF : ∀ b ∈ D :: wr, ∀ o, h2.get? b = some o → s6.heap.get? b = some o := fun b hb o e => hs6.r.fix b o (by unfold pr; rw [if_pos hb]; exact e)
        refine ⟨St.again hc he hs2 hoff hs7, fun b hb => hoff7 b (.tail _ hb), hoff7 D (.head _), W.k.frame _ _ _ hst2 fun b hb o e => ?_, prF D (.head _) _ hD3⟩
        rcases hfp b hb with q | q
        · exact prF b (.tail _ q) o e
        · obtain ⟨o', e'⟩ := hZF b q
          have e2 : h2.get? b = some o' := hs3.r.fix b o' e'
          rw [e] at e2; cases e2
          exact hs7.r.fix b o e'
      refine wpAny_mono (tv_run (turn i iv σ acc hiv hJ) ha (comp_env hc he) hs4 hrel) (fun _ s5 => ex4 fun σ5 m5 h5 hs5 => ?_) fun _ _ x => x
      refine wpAny_mono (tt_run h5 ha (comp_env hc he) hs5) (fun ok s6 => ex3 fun σ6 h6 hs6 => ?_) fun _ _ x => x
      cases ok with
      | false =>
        obtain ⟨g1, g2, g3, g4, g5⟩ := fin s6 σ6 m5 hs6
        rw [if_neg Bool.false_ne_true]
        exact ⟨xs.length + 1 - (i + 1), by lia, i + 1, σ6, acc, ys, nn, ⟨h6.1 rfl, by lia⟩, hlt, rfl, g4, g1, g2, g5, hr', g3⟩
      | true =>
        rw [if_pos rfl]
        refine wpAny_mono (h6.2 rfl A _ _ _ s6 ha (comp_env hc he) hs6) (fun y s7 => PE.go fun ay σ7 r7 h7 hs7 => ?_) fun _ _ x => x
        obtain ⟨g1, g2, g3, g4, g5⟩ := fin s7 σ7 m5 hs7
        have hysz : ys.size = acc.length := by rw [hr'.length]; simp
        refine wpAny_list_append_plain (hsz := by rw [hysz, sizeLine_eq]; lia) ⟨nn, g5⟩ fun h8 hl8 hs8 => ?_
        obtain ⟨n8, hl8⟩ := hl8
        refine ⟨xs.length + 1 - (i + 1), by lia, i + 1, σ7, acc ++ [ay], ys.push y, n8, ⟨h7, by simp; lia⟩, hlt, rfl, W.k.frame _ _ _ g4 fun b hb o e => ?_, g1.keepsOff (wr := [D]) (fun b hb => by rw [List.mem_singleton.mp hb]; exact g3) (fun b o hb e => hs8.extBut b o (fun q => hb (by simp [q])) e), g2, hl8, by simpa using hr'.snoc r7, g3⟩
        refine hs8.extBut b o (fun q => ?_) e
        subst q
        rcases hfp b hb with q | q
        · exact hDw q
        · obtain ⟨o', e'⟩ := hZF b q
          have := (Fi_get e').2.2
          rw [hDn] at this; cases this
    · have hin' : i = xs.length := by lia
      subst hin'
      refine W.k.done _ _ _ hst' fun h1 tk1 hk1 => ?_
      have hs1 : St c (Fi wr σ0 s2.heap) σ (compE scope (D + 1) env) [] (compM scope m) { s' with heap := h1, toks := tk1 } := hs'.keepsOff hoff' hk1
      obtain ⟨q1, q2, q3⟩ := comp_done hs2 hDn hCn hoff hs1 hDo' (hk1 D _ hDw hD') hr'
      exact hfin D (D + 1) acc (Z ++ σ) _ (hend σ acc hJ) q1 q2 q3
  exact codeAny_compStart_list loop (wpAny_mono (E := fun _ _ => False) (W.self 0 _ _ _ hst4 loop) (fun _ _ x => x) fun _ _ x => x.elim)
end
section
variable {c : Cx} {n : Nat} {sc : Scope} {σ σ' Z : Hp} {m m' : Lm}

theorem t_comp {elt target iter : Expr} {ifs : List Expr} {scope : Scope} {pos : Pos} {Q : AV → Hp → Prop}
    (h : TIt c n sc σ m iter target fun xs Z σ0 => CompT c n scope m elt target ifs xs Z σ0 fun acc σe => ∀ D, Q (.ref D) ((D, .list acc) :: σe))
    (hc : compOk sc scope = true := by with_unfolding_all exact rfl) (hfs : ∀ (env : Env) x, foldedSetIterable iter env x = pure x := by intro _ _; rfl) : TE c n sc σ m (.ListComp elt [⟨target, iter, ifs, 0⟩] scope pos) Q :=
  fun A F env ow s ha he hs => by
    rw [eval_ListComp]
    refine comp_core (compOk_spec hc) h ha he hs (hfs env) fun D C acc σe s' hR hs' hoff hns => ?_
    obtain ⟨mC, hns⟩ := hns
    refine ⟨mC, hns, fun h' hsb => ex_ref (hR D) ?_⟩
    exact hs'.keepsOff (wr := [C]) (tk := s'.toks) (fun b hb => by rw [List.mem_singleton.mp hb]; exact hoff) fun b o hb e => hsb.extBut b o (fun q => hb (by simp [q])) e

noncomputable def compAssOk (sc scope : Scope) (x : Str) (p pos ep : Pos) : Bool :=
  (sc.kind == .function) && (sc.names.lookup x == some .local) && (p.line == ep.line) && !(scope.names.any fun (n, k) => n == x && (k == .local || k == .cell))
theorem x_assign_comp {x : Str} {p : Pos} {elt target iter : Expr} {ifs : List Expr} {scope : Scope} {ep pos : Pos} {Qn : Hp → Lm → Prop} {Qr : AF → Hp → Lm → Prop}
    (h : TIt c n sc σ m iter target fun xs Z σ0 => CompT c n scope m elt target ifs xs Z σ0 fun acc σe => ∀ D, Qn ((D, .list acc) :: σe) (mput m x (.ref D)))
    (hc : compOk sc scope = true := by with_unfolding_all exact rfl) (hok : compAssOk sc scope x p pos ep = true := by with_unfolding_all exact rfl) (hfs : ∀ (env : Env) x, foldedSetIterable iter env x = pure x := by intro _ _; rfl) :
    TX c n sc σ m (.Assign [.Name x p] (.ListComp elt [⟨target, iter, ifs, 0⟩] scope ep) pos) Qn Qr :=
  fun A F env ow s ha he hs => by
    unfold compAssOk at hok
    simp only [Bool.and_eq_true, beq_iff_eq] at hok
    obtain ⟨⟨⟨o1, o2⟩, o3⟩, o4⟩ := hok
    have hkx := he.lo x o2
    have hsw : swapsWith (.ListComp elt [⟨target, iter, ifs, 0⟩] scope ep) (some (.Name x p)) pos.line env = pure true := by
      show (pure _ : Sem Bool) = pure true
      congr 1
      have hb : env.blockKind = .function := by
        unfold Env.blockKind
        rw [he.scope, o1]; rfl
      rw [hb, hkx, o4]
      have : (p.line == (Expr.ListComp elt [⟨target, iter, ifs, 0⟩] scope ep).pos.line) = true := beq_iff_eq.mpr o3
      rw [this]; rfl
    rw [exec_Assign_Name_used _ _ _ _ hsw]
    refine wpAny_bind (wpAny_standAt ?_)
    rw [arm_evalThenUse_ListComp]
    refine wpAny_bind (wpAny_bind (wpAny_mono (Q := fun u s' => PA c Qn F env ow () s') (E := fun _ _ => False) ?_ (fun _ s1 => ex4 fun σ1 m1 h1 hs1 => wpAny_pure (wpAny_pure ⟨σ1, m1, .inl ⟨rfl, h1⟩, hs1⟩)) fun _ _ x => x))
    refine comp_core (compOk_spec hc) h ha he.toEnvOk hs (hfs env) fun D C acc σe s' hR hs' hoff hns => ?_
    obtain ⟨mC, hns⟩ := hns
    obtain ⟨mm, g1, g2⟩ := hs'.f.ns
    show wpAny _ A (assign (.Name x p) env (.ref D)) _ _ s'
    refine wpAny_mono (E := fun _ _ => False) (Q := fun _ s'' => St c F ((D, .list acc) :: σe) env ow (mput m x (.ref D)) s'' ∧ ∃ m, s''.heap.Ns C m) ?_ (fun _ s2 hx1 => hx1.elim fun hs2 hx2 => hx2.elim fun mC' hns2 => ⟨mC', hns2, fun h' hsb => ⟨_, _, hR D, ?_⟩⟩) fun _ _ x => x
    · refine wpAny_assign_Name (wpAny_storeName_local hkx g1 (fun h' hn hb => ⟨hs'.store g2 (a := .ref D) rfl hkx hn hb, mC, ?_⟩) (by rw [he.kind]; rfl))
      exact hns.sameBut hb hoff.2.2.1
    · refine hs2.keepsOff (wr := [C]) (tk := s2.toks) (fun b hb => ?_) fun b o hb e => hsb.extBut b o (fun q => hb (by simp [q])) e
      rw [List.mem_singleton.mp hb]; exact hoff
end
section
variable {c : Cx} {n : Nat} {sc : Scope} {σ σ' Z : Hp} {m m' : Lm}

/-! statements -/
theorem x_expr {e : Expr} {pos : Pos} {Qn : Hp → Lm → Prop} {Qr : AF → Hp → Lm → Prop} (h : TE c n sc σ m e fun v σ1 => Qn σ1 m) (hc : noComp e = true := by with_unfolding_all exact rfl) : TX c n sc σ m (.Expr e pos) Qn Qr :=
  fun A F env ow s ha he hs =>
    wpAny_Expr_any (wpAny_mono (h A F env ow s ha he.toEnvOk hs) (fun v s1 => PE.go fun av σ1 r1 h2 hs1 => ⟨σ1, m, .inl ⟨rfl, h2⟩, hs1⟩) fun _ _ x => x.elim) (by unfold interactive; rw [show env.scope.kind = .function from he.kind]; rfl) (by cases e <;> first | exact (Bool.false_ne_true hc).elim | rfl)

theorem t_append {o elt : Expr} {apos pos : Pos} {Q : AV → Hp → Prop}
    (h : TE c n sc σ m o fun ov σ1 => ∃ D, ov = .ref D ∧ (∃ vs, (D, AO.list vs) ∈ σ1) ∧ TE c n sc σ1 m elt fun y σ2 => ∃ vs σ3, Mine.Upd σ2 D (.list vs) (.list (vs ++ [y])) σ3 ∧ vs.length ≤ 100000 ∧ Q .none σ3)
    (hb : attrBase o = true := by with_unfolding_all exact rfl) (he : noStar elt = true := by with_unfolding_all exact rfl) (hl : (apos.endLine == pos.line) = true := by with_unfolding_all exact rfl) : TE c n sc σ m (.Call (.Attribute o "append" apos) [elt] [] pos) Q :=
  fun A F env ow s ha hen hs => by
    have htree : backTo pos (starEach [elt] env) = [(false, eval elt env)] := by rw [star_cons he]; rfl
    refine wpAny_Call_append ?_ ?_ hl htree (wpAny_mono (h A F env ow s ha hen hs) (fun ov s1 => PE.go fun aov σ1 r1 hx1 hs1 => ?_) fun _ _ x => x)
    · cases o <;> first | exact (Bool.false_ne_true hb).elim | rfl
    · rw [htree]; rfl
    · obtain ⟨D, e1, ⟨vs, h1⟩, h2⟩ := hx1
      subst e1
      have : ov = .ref D := r1
      subst this
      obtain ⟨items, nn, g1, r1', l1, z1⟩ := hs1.list h1
      refine ⟨D, items, rfl, ⟨_, nn, g1, rfl, rfl, rfl⟩, wpAny_mono (h2 A F env ow s1 ha hen hs1) (fun y s2 => PE.go fun ay σ2 ry hx2 hs2 => ?_) fun _ _ x => x.elim⟩
      obtain ⟨ws, σ3, hu, hz, hq⟩ := hx2
      obtain ⟨i2, n2, g2, r2, l2, z2⟩ := hs2.list hu.mem
      refine wpAny_list_append_plain (hsz := by rw [z2, sizeLine_eq]; lia) ⟨n2, g2⟩ fun h' hl' hsb => ?_
      obtain ⟨n3, g3⟩ := hl'
      exact ex_none hq (hs2.upd (tk := s2.toks) hu (fun b o q e => hsb.extBut b o q e) g3 ⟨_, _, rfl, by simpa using r2.snoc ry⟩)

theorem load_run {F : Fx} {A : Around} {env : Env} {ow : List (Str × Addr)} {s : Shared} {x : Str} {v : AV} (hx : m x = some v) (hk : stOk sc x = true) (he : EnvOk sc env ow) (hs : St c F σ env ow m s) :
    wpAny (model c.prog c.w) A (loadName env x) (fun vv s' => v.rel c vv ∧ St c F σ env ow m s') (fun _ _ => False) s := by
  unfold stOk at hk
  have hl := he.lo x (beq_iff_eq.mp hk)
  obtain ⟨mm, h1, h2⟩ := hs.f.ns
  obtain ⟨vv, e, r⟩ := h2 x v hx hl
  exact wpAny_loadName_local he.kind hl h1 e ⟨r, hs⟩
theorem x_augsub {x : Str} {p pos : Pos} {value : Expr} {a : Int} {Qn : Hp → Lm → Prop} {Qr : AF → Hp → Lm → Prop} (hx : m x = some (.int a)) (h : TE c n sc σ m value fun v σ1 => ∃ b, v = .int b ∧ Qn σ1 (mput m x (.int (a - b))))
    (hk : stOk sc x = true := by with_unfolding_all exact rfl) : TX c n sc σ m (.AugAssign (.Name x p) .Sub value pos) Qn Qr :=
  fun A F env ow s ha he hs => by
    refine wpAny_AugAssign_Name (wpAny_mono (load_run hx hk he.toEnvOk hs) (fun old s1 hx1 => hx1.elim fun r1 hs1 => ?_) fun _ _ x => x.elim)
    refine wpAny_mono (h A F env ow s1 ha he.toEnvOk hs1) (fun v s2 => PE.go fun av σ2 r2 hx2 hs2 => ?_) fun _ _ x => x.elim
    obtain ⟨b, e, hq⟩ := hx2
    subst e
    obtain ⟨t, rfl⟩ := r1
    obtain ⟨u, rfl⟩ := r2
    exact isub_int (wpAny_mono (store_run (a := .int (a - b)) hk he.toEnvOk (hs2.tok) ⟨_, rfl⟩) (fun _ s3 hs3 => ⟨σ2, _, .inl ⟨rfl, hq⟩, hs3⟩) fun _ _ x => x)
theorem x_augadd {x : Str} {p pos : Pos} {value : Expr} {a : Int} {Qn : Hp → Lm → Prop} {Qr : AF → Hp → Lm → Prop} (hx : m x = some (.int a)) (h : TE c n sc σ m value fun v σ1 => ∃ b, v = .int b ∧ Qn σ1 (mput m x (.int (a + b))))
    (hk : stOk sc x = true := by with_unfolding_all exact rfl) : TX c n sc σ m (.AugAssign (.Name x p) .Add value pos) Qn Qr :=
  fun A F env ow s ha he hs => by
    refine wpAny_AugAssign_Name (wpAny_mono (load_run hx hk he.toEnvOk hs) (fun old s1 hx1 => hx1.elim fun r1 hs1 => ?_) fun _ _ x => x.elim)
    refine wpAny_mono (h A F env ow s1 ha he.toEnvOk hs1) (fun v s2 => PE.go fun av σ2 r2 hx2 hs2 => ?_) fun _ _ x => x.elim
    obtain ⟨b, e, hq⟩ := hx2
    subst e
    obtain ⟨t, rfl⟩ := r1
    obtain ⟨u, rfl⟩ := r2
    exact wpAny_iadd_int (wpAny_mono (store_run (a := .int (a + b)) hk he.toEnvOk (hs2.tok) ⟨_, rfl⟩) (fun _ s3 hs3 => ⟨σ2, _, .inl ⟨rfl, hq⟩, hs3⟩) fun _ _ x => x)

/-! names stored in the turned order -/
theorem names_run {F : Fx} {env : Env} {ow : List (Str × Addr)} (he : EnvOk sc env ow) (A : Around) (ns : List Str) : ∀ (as : List AV) (vs : List Value) (m : Lm) (s : Shared), ns.all (stOk sc) = true → VsRel c as vs → ns.length = as.length → St c F σ env ow m s →
    wpAny (model c.prog c.w) A (assignInOrder (ns.map fun x => bindName env x) vs) (fun _ s' => St c F σ env ow (bindA (ns.zip as) m) s') (fun _ _ => False) s := by
  induction ns with
  | nil =>
    intro as vs m s _ hv hl hs
    cases as with
    | nil =>
      cases vs with
      | nil => exact assignInOrder_nil hs
      | cons v vs => exact hv.elim
    | cons a as => simp at hl
  | cons x ns ih =>
    intro as vs m s hk hv hl hs
    cases as with
    | nil => simp at hl
    | cons a as =>
      cases vs with
      | nil => exact hv.elim
      | cons v vs =>
        rw [List.all_cons, Bool.and_eq_true] at hk
        rw [List.map_cons]
        exact assignInOrder_cons (wpAny_bindName (wpAny_mono (store_run (A := A) hk.1 he hs hv.1) (fun _ s1 hs1 => ih as vs _ s1 hk.2 hv.2 (by simpa using hl) hs1) fun _ _ x => x.elim))
theorem VsRel.reverse {as : List AV} {vs : List Value} (h : VsRel c as vs) : VsRel c as.reverse vs.reverse := by
  induction as generalizing vs with
  | nil => cases vs with
    | nil => exact trivial
    | cons v vs => exact h.elim
  | cons a as ih => cases vs with
    | nil => exact h.elim
    | cons v vs => rw [List.reverse_cons, List.reverse_cons]; exact (ih h.2).snoc h.1
theorem x_tts {ts : List Expr} {k : Nat} {p pos : Pos} {value : Expr} {ns : List Str} {Qn : Hp → Lm → Prop} {Qr : AF → Hp → Lm → Prop} (hw : ∀ env : Env, env.scope = sc → swappedStores [.Tuple ts k p] value env = pure (some ns))
    (h : TE c n sc σ m value fun v σ1 => ∃ t as, v = .ref t ∧ (t, AO.tup as) ∈ σ1 ∧ as.length = ns.length ∧ Qn σ1 (bindA (ns.reverse.zip as.reverse) m))
    (hk : ns.all (stOk sc) = true := by with_unfolding_all exact rfl) : TX c n sc σ m (.Assign [.Tuple ts k p] value pos) Qn Qr :=
  fun A F env ow s ha he hs => by
    refine Assign_Tuple_swapped (wpAny_mono (h A F env ow s ha he.toEnvOk hs) (fun v s1 => PE.go fun av σ1 r1 hx1 hs1 => ?_) fun _ _ x => x) (by cases value <;> rfl) (hw env he.scope)
    obtain ⟨t, as, e1, h1, h2, h3⟩ := hx1
    subst e1
    have : v = .ref t := r1
    subst this
    obtain ⟨_, ob, hob, items, nn, rfl, hr⟩ := hs1.r.cell _ h1
    obtain ⟨mm, hmm, FF, NN, back⟩ := hs1.fr
    refine unpackItemsN_ FF NN ⟨_, hob, rfl, _, rfl⟩ ha.hd (by rw [← h2, VsRel.length hr, Array.length_toList]) fun h' F' N' => ?_
    refine wpAny_mono (names_run he.toEnvOk A _ _ _ m _ ?_ hr.reverse (by simp [h2]) (back h' s1.toks F' N').2) (fun _ s2 hs2 => ⟨σ1, _, .inl ⟨rfl, h3⟩, hs2⟩) fun _ _ x => x
    rw [List.all_reverse]; exact hk
/-- a tuple into places, in order -/
theorem x_ttn {ts : List Expr} {k : Nat} {p pos : Pos} {value : Expr} {Qn : Hp → Lm → Prop} {Qr : AF → Hp → Lm → Prop} (hw : ∀ env : Env, env.scope = sc → swappedStores [.Tuple ts k p] value env = pure none)
    (h : TE c n sc σ m value fun v σ1 => TA c n sc σ1 m (.Tuple ts k p) v Qn) : TX c n sc σ m (.Assign [.Tuple ts k p] value pos) Qn Qr :=
  fun A F env ow s ha he hs => by
    refine Assign_Tuple (wpAny_mono (h A F env ow s ha he.toEnvOk hs) (fun v s1 => PE.go fun av σ1 r1 h1 hs1 => ?_) fun _ _ x => x) (by cases value <;> rfl) (hw env he.scope)
    exact wpAny_mono (h1 A F env ow s1 v ha he.toEnvOk hs1 r1) (fun _ s2 => ex4 fun σ2 m2 h2 hs2 => ⟨σ2, m2, .inl ⟨rfl, h2⟩, hs2⟩) fun _ _ x => x

theorem x_try {body : List Stmt} {h₀ : ExceptHandler} {hds : List ExceptHandler} {pos : Pos} {Qn : Hp → Lm → Prop} {Qr : AF → Hp → Lm → Prop} (h : TS c n sc σ m body Qn Qr) : TX c n sc σ m (.Try body (h₀ :: hds) [] [] pos) Qn Qr :=
  fun A F env ow s ha he hs => by
    refine wpAny_Try_except (wpAny_mono (h A F env ow s ha he hs) (fun f s1 => ex4 fun σ1 m1 h1 hs1 => ?_) fun _ _ x => x.elim)
    rcases h1 with ⟨rfl, h1⟩ | ⟨af, r, h1⟩
    · exact wpAny_execs_nil ⟨σ1, m1, .inl ⟨rfl, h1⟩, hs1⟩
    · have : ∃ σ' m', ((f = .next ∧ Qn σ' m') ∨ ∃ af, AF.rel c af f ∧ Qr af σ' m') ∧ St c F σ' env ow m' s1 := ⟨σ1, m1, .inr ⟨af, r, h1⟩, hs1⟩
      cases af with
      | brk => cases r; exact this
      | cont => cases r; exact this
      | ret v => obtain ⟨vv, rfl, r⟩ := r; exact this
/-- a name that an inner block shares -/
theorem a_cell {x : Str} {p : Pos} {a : AV} {Q : Hp → Lm → Prop} (h : Q σ (mput m x a)) (hk : sc.names.lookup x = some .cell := by with_unfolding_all exact rfl) : TA c n sc σ m (.Name x p) a Q :=
  fun A F env ow s v ha he hs hv => by
    obtain ⟨k1, b, k2, k3⟩ := he.ce x hk
    obtain ⟨b1, b2, b3, o, v0, b4, b5⟩ := hs.f.owd x b k3
    exact wpAny_assign_Name (wpAny_storeName_cell he.kind k1 k2 (v₀ := v0) ⟨o, b4, b5⟩ fun h' hn hb => ⟨_, _, h, hs.storeC hv k1 k2 k3 hn hb⟩)
end
section
variable {c : Cx} {n : Nat} {sc : Scope} {σ σ' Z : Hp} {m m' : Lm}

/-- an own class called -/
theorem new_run {C : Addr} {d : Df} {qual : Str} {ns : List Str} {args : List AV} {Q : AV → Hp → Prop} (hC : C = c.cD ∨ C = c.cE) (hio : InitOk c.base c.K C qual d)
    (hb : ∀ pm code doc ct (vs : List Value), vs.length = ns.length → bindArgs (fnOf "__init__" qual d.params d.body d.scope .none .none doc pm none code ct) ⟨vs, []⟩ = pure (ns.zip vs))
    (hok : parsOk d.scope ns = true) (hl : ns.length = args.length + 1)
    (h : ∀ x dx, TS c n d.scope ((x, .inst C dx) :: (dx, .attrs []) :: σ) (bindA (ns.zip (.ref x :: args)) fun _ => none) d.body (retN fun v σ' => v = .none ∧ Q (.ref x) σ') (retR fun v σ' => v = .none ∧ Q (.ref x) σ')) : TCC c (n + 2) C args σ Q :=
  fun A F env ow m s vs ha hs hv => by
    obtain ⟨fI, o, pm, code, doc, ct, i1, i2, i3, i4, i5⟩ := hio
    obtain ⟨k1, k2, k3, k4, k5⟩ := c.cls C hC
    obtain ⟨mm, hmm, FF, NN, back⟩ := hs.fr
    refine call_cls FF c.kin NN k1 i1 i2 fun x dx h' F' N' hlt hdx => ?_
    have hb1 := (back h' s.toks F' fun p hp => N' p (.tail _ (.tail _ hp))).2
    have hdn : s.heap.get? dx = none := by
      cases e : s.heap.get? dx with
      | none => rfl
      | some o =>
        have q := N' (dx, dictOf [] 0) (.tail _ (.head _))
        exact absurd (hlt _ (mem_nwAll e q.2.1 q.2.2)) (Nat.lt_irrefl _)
    have hs1 : St c F ((dx, .attrs []) :: σ) env ow m { s with heap := h', toks := s.toks } := hs.newN hb1 hdn (N' _ (.tail _ (.head _))).1 ⟨[], 0, rfl, trivial⟩
    have hxn : s.heap.get? x = none := by
      cases e : s.heap.get? x with
      | none => rfl
      | some o =>
        have q := N' (x, instObj C dx) (.head _)
        have z := hlt _ (mem_nwAll e q.2.1 q.2.2)
        exact absurd (Nat.lt_trans z hdx) (Nat.lt_irrefl _)
    have hxσ : x ∉ ((dx, AO.attrs []) :: σ).map (·.1) := fun q => by
      rw [List.map_cons] at q
      rcases List.mem_cons.mp q with q | q
      · exact Nat.ne_of_gt hdx q
      · obtain ⟨ob, e⟩ := hs.r.keyLive q
        rw [hxn] at e; cases e
    have hs2 : St c F ((x, .inst C dx) :: (dx, .attrs []) :: σ) env ow m { s with heap := h', toks := s.toks } := by
      have hFx : F x = none := by
        cases e : F x with
        | none => rfl
        | some o => rw [hs.r.fix x o e] at hxn; cases hxn
      refine ⟨⟨hs1.r.base, hs1.r.fix, fun p hp => ?_, ?_, hs1.r.os, hs1.r.gens⟩, ⟨hs1.f.ns, hs1.f.cl, hs1.f.free, ?_, hs1.f.above, fun y b hp => ?_, hs1.f.ownd⟩⟩
      · rcases List.mem_cons.mp hp with rfl | hp
        · exact ⟨hFx, _, (N' _ (.head _)).1, rfl⟩
        · exact hs1.r.cell p hp
      · rw [List.map_cons]; exact List.nodup_cons.mpr ⟨hxσ, hs1.r.nd⟩
      · rw [List.map_cons]
        intro q
        rcases List.mem_cons.mp q with q | q
        · exact (N' (x, instObj C dx) (.head _)).2.1 q.symm
        · exact hs1.f.off q
      · obtain ⟨a1, a2, a3, o, v, a4, a5⟩ := hs1.f.owd y b hp
        refine ⟨a1, fun q => ?_, a3, o, v, a4, a5⟩
        rw [List.map_cons] at q
        rcases List.mem_cons.mp q with q | q
        · obtain ⟨_, _, _, o', v', e', _⟩ := hs.f.owd y b hp
          have q' : b = x := q
          rw [q', hxn] at e'; cases e'
        · exact a2 q
    obtain ⟨f1, f2⟩ := hs2.frame
    have ha' : AOk (n + 1) (A.under (.builtin "type.__call__" ⟨.ref C :: vs, []⟩)) := ⟨ha.hd, by have := ha.dep; show A.depth + 1 + (n + 1) ≤ 900; lia, by have := ha.un; show A.units + 1 + 20 * (n + 1) ≤ 9000; lia⟩
    refine codeAny_mono (def_core ha' hs2.big f1 (args := .ref x :: args) ⟨rfl, hv⟩ i3 i4 i5 rfl rfl rfl rfl rfl (hb pm code doc ct) hok (by simp [hl]) (h x dx)) fun r s' hx1 => ?_
    obtain ⟨v, av, σ', h1, h2, ⟨h3, h4⟩, h5⟩ := hx1
    subst h1 h3
    have : v = .none := h2
    subst this
    exact ⟨rfl, ex_ref h4 (f2 _ _ h5)⟩
end
section
variable {c : Cx} {n : Nat} {sc : Scope} {σ σ' Z : Hp} {m m' : Lm}
set_option maxRecDepth 100000

theorem setItem_cut {prog : Program} {w : World} {A : Around} {E : Value → Shared → Prop} {s : Shared} {l sl r : Addr} {items new : Array Value} {nn n2 : Nat} {vl vu : Value} {x y : Int} {Q : Unit → Shared → Prop} (hl : s.heap.get? l = some (listOf items nn))
    (hs : s.heap.IsSliceOf sl vl vu .none) (pl : IsPart vl (some x)) (pu : IsPart vu (some y)) (hr : s.heap.get? r = some (listOf new n2)) (hne : l ≠ r) (hx : 0 ≤ x) (hxy : x ≤ y) (hy : y ≤ items.size) (hsz : items.size + new.size ≤ 100000)
    (h : Q () { s with heap := s.heap.update l (Obj.mapSeq fun xs => xs.extract 0 x.toNat ++ new ++ xs.extract y.toNat) }) : wpAny (model prog w) A (setItem (.ref l) (.ref sl) (.ref r)) Q E s := by
  have hL : s.heap.IsList l items := PySem.IsL.isList (n := nn) hl
  obtain ⟨os, hos, hcs, hds⟩ := id hs
  have hTs : s.TypeIs (.ref sl) "slice" := ⟨os, hos, hcs⟩
  have hTr : s.TypeIs (.ref r) "list" := ⟨_, hr, rfl⟩
  unfold setItem
  try with_reducible refine wpAny_holding ?_
  first | refine wpAny_bind (wpAny_pure ?_) | skip
  refine wpAny_bind (wpAny_sequenceKey hL.typeIs (by decide) ?_)
  refine wpAny_bind (wpAny_callSpecial?_slot (name := Str.ofString "__setitem__") hL.typeIs slot_list_setitem
    (wpAny_call_entry slot_list_setitem hL.typeIs entry_list_setitem ?_ (args_list_setitem _ _ _)))
  show wpAny _ _ (Builtin.List.listSubscript? (.ref sl) >>= _) _ _ s
  refine wpAny_bind ?_
  unfold Builtin.List.listSubscript?
  refine wpAny_bind (wpAny_specialOf hTs slice_no_index ?_)
  simp only [Option.isNone_none, if_true]
  refine wpAny_pure ?_
  show wpAny _ _ (typeOf (.ref sl) >>= _) _ _ s
  refine wpAny_bind (wpAny_typeOf hTs ?_)
  rw [if_neg (by decide)]
  rw [listSliceParts_eq]
  refine wpAny_bind (wpAny_bind (wpAny_field hos hds (x := .none) rfl (wpAny_bind (wpAny_listPart .none ?_))))
  rw [if_neg (by exact Bool.false_ne_true)]
  refine wpAny_bind (wpAny_field hos hds (x := vl) rfl (wpAny_bind (wpAny_listPart pl ?_)))
  refine wpAny_bind (wpAny_field hos hds (x := vu) rfl (wpAny_bind (wpAny_listPart pu (wpAny_pure ?_))))
  dsimp only
  have hsame : Builtin.List.listSameRef (.ref l) (.ref r) = false := by show (l == r) = false; simp [hne]
  rw [hsame, if_neg Bool.false_ne_true]
  refine wpAny_bind (m := Builtin.List.listAllItems _ _) ?_
  unfold Builtin.List.listAllItems
  refine wpAny_bind (wpAny_typeOf hTr ?_)
  rw [if_pos (by rfl)]
  unfold Builtin.List.listItems
  refine wpAny_bind (wpAny_seqItems hr rfl (wpAny_pure ?_))
  refine wpAny_bind (wpAny_bind (wpAny_seqItems hl rfl (wpAny_pure ?_)))
  refine wpAny_bind (wpAny_of_eq (sliceIndices_raw (some x) (some y) none items.size (by simp)) ?_)
  have hb : sliceBounds (some x) (some y) none items.size = (x, y, 1) := by
    have e1 : ¬ x < 0 := by lia
    have e2 : ¬ y < 0 := by lia
    simp only [sliceBounds, Option.getD_none, e1, e2, if_false]
    rw [if_pos (by decide), if_pos (by decide)]
    have : max 0 (min x (items.size : Int)) = x := by lia
    have : max 0 (min y (items.size : Int)) = y := by lia
    simp [*]
  rw [hb]
  dsimp only
  rw [if_pos (by decide)]
  refine wpAny_bind (wpAny_rule ?_)
  have hlong : Builtin.List.listTooLong (items.size + new.size) = false := by
    unfold Builtin.List.listTooLong
    have := sizeLine_eq
    simp; lia
  rw [hlong, if_neg Bool.false_ne_true]
  have hmax : max x y = y := by lia
  rw [hmax]
  refine wpAny_bind (m := Builtin.List.listUpdate _ _) ?_
  show wpAny _ _ (updateSeq l _) _ _ s
  refine wpAny_updateSeq hl rfl (wpAny_bind (wpAny_letGo (wpAny_pure ⟨.none, rfl, wpAny_pure ?_⟩))) (by rw [sizeLine_eq]; lia) (by simp; rw [sizeLine_eq]; lia)
  exact h

theorem a_cut {o lo hi : Expr} {p pos : Pos} {a : AV} {Q : Hp → Lm → Prop} (h : TE c n sc σ m o fun ov σ1 => TE c n sc σ1 m lo fun av σ2 => TE c n sc σ2 m hi fun bv σ3 =>
      ∃ l vs x y r ws σ4, ov = .ref l ∧ av = .int x ∧ bv = .int y ∧ a = .ref r ∧ (r, AO.list ws) ∈ σ3 ∧ l ≠ r ∧ Mine.Upd σ3 l (.list vs) (.list (vs.take x.toNat ++ ws ++ vs.drop y.toNat)) σ4 ∧ 0 ≤ x ∧ x ≤ y ∧ y ≤ vs.length ∧ vs.length + ws.length ≤ 100000 ∧ Q σ4 m) :
    TA c n sc σ m (.Subscript o (.Slice (some lo) (some hi) none p) pos) a Q :=
  fun A F env ow s v ha he hs hv => by
    rw [arm_assign_Subscript]
    refine wpAny_bind (wpAny_holding (wpAny_mono (h A F env ow s ha he hs) (fun ov s1 => PE.go fun aov σ1 r1 h1 hs1 => ?_) fun _ _ x => x.elim))
    refine wpAny_bind (wpAny_holding (wpAny_Slice (wpAny_mono (h1 A F env ow s1 ha he hs1) (fun vl s2 => PE.go fun al σ2 r2 h2 hs2 => ?_) fun _ _ x => x.elim)))
    refine wpAny_mono (h2 A F env ow s2 ha he hs2) (fun vu s3 => PE.go fun au σ3 r3 hx1 hs3 => wpAny_pure ?_) fun _ _ x => x.elim
    obtain ⟨l, vs, x, y, r, ws, σ4, e1, e2, e3, e4, hm, hne, hu, hx, hxy, hy, hz, hq⟩ := hx1
    subst e1 e2 e3 e4
    have : ov = .ref l := r1
    subst this
    have : v = .ref r := hv
    subst this
    have hs4 : St c F σ3 env ow m { s3 with heap := s3.heap.push { cls := .type "slice", data := .fields #[vl, vu, .none] } } := hs3.keeps fun _ _ e => Heap.get?_push_of_some _ e
    obtain ⟨i1, n1, g1, r1, l1, z1⟩ := hs4.list hu.mem
    obtain ⟨i2, n2, g2, r2', l2, z2⟩ := hs4.list hm
    refine wpAny_bind (wpAny_standAt (wpAny_bind (wpAny_holding (setItem_cut g1 (Heap.IsSliceOf.new _ _ _ _) (part_int r2) (part_int r3) g2 hne hx hxy (by rw [z1]; exact hy) (by rw [z1, z2]; exact hz) (wpAny_release' ⟨σ4, m, hq, ?_⟩)))))
    refine hs4.upd (tk := s3.toks) hu (fun b o q e => (Heap.SameBut.update _ _ _).extBut b o q e) (Heap.get?_update_self _ g1 rfl) ?_
    obtain ⟨n', e⟩ := Obj.data_mapSeq (o := listOf i1 n1) rfl (fun xs => xs.extract 0 x.toNat ++ i2 ++ xs.extract y.toNat)
    refine ⟨i1.extract 0 x.toNat ++ i2 ++ i1.extract y.toNat, _, rfl, ?_⟩
    have e2 : (i1.extract 0 x.toNat ++ i2 ++ i1.extract y.toNat).toList = i1.toList.take x.toNat ++ i2.toList ++ i1.toList.drop y.toNat := by
      simp [List.take_of_length_le]
    rw [e2]
    exact ((r1.take _).append r2').append (r1.drop _)
end
section
variable {c : Cx} {n : Nat} {sc : Scope} {σ σ' Z : Hp} {m m' : Lm}

/-! dicts with int keys and True under each -/
theorem t_dict0 {pos : Pos} {Q : AV → Hp → Prop} (h : ∀ D, (D == sysModules) = false → Q (.ref D) ((D, .dict []) :: σ)) : TE c n sc σ m (.Dict [] [] pos) Q :=
  fun A F env ow s ha he hs => by
    refine wpAny_Dict_empty (ex_ref (h _ ?_) (hs.push (ao := .dict []) ⟨#[], _, ⟨rfl, rfl, rfl⟩, rfl, ?_, ?_, List.nodup_nil⟩))
    · obtain ⟨mm, ⟨o, _, _, e, _⟩, _⟩ := hs.f.ns
      refine beq_eq_false_iff_ne.mpr (Nat.ne_of_gt (Nat.lt_trans (modules_low c.nolimit) (Nat.lt_of_le_of_lt hs.f.above (Heap.lt_size e))))
    · intro e he; simp at he
    · exact .nil
theorem valueAt_dict {ks : List Int} {k : Int} : (valueAt (dictEs ks) k).isSome = ks.contains k := by
  unfold dictEs
  induction ks with
  | nil => rfl
  | cons x r ih =>
    rw [List.map_cons, List.contains_cons]
    by_cases e : x = k
    · subst e; simp [valueAt]
    · unfold valueAt at ih ⊢
      rw [List.find?_cons, show decide ((x, Value.bool true).1 = k) = false from decide_eq_false e]
      rw [show (k == x) = false from beq_eq_false_iff_ne.mpr (Ne.symm e), Bool.false_or]
      exact ih
theorem cm_ind {d : Addr} {ks : List Int} {k : Int} {Q : Bool → Hp → Prop} (hm : (d, .dict ks) ∈ σ) (hd : (d == sysModules) = false) (h : Q (ks.contains k) σ) : TCmp c n σ .In (.int k) (.ref d) Q := fun A F env ow m s v w ha hs e1 e2 => by
  obtain ⟨t, e1⟩ := e1
  have : w = .ref d := e2
  subst w e1
  obtain ⟨_, ob, hob, hr⟩ := hs.r.cell _ hm
  refine wpAny_in_of (intKind_is _ _ k t) hd (Heap.dictOf_iff.mpr ⟨ob, hob, hr⟩).mapOf ⟨_, _, rfl, ?_, hs.tok⟩
  rw [valueAt_dict]; exact h
theorem stored_dict {ks : List Int} {k : Int} : stored (dictEs ks) k (.bool true) = dictEs (if ks.contains k then ks else ks ++ [k]) := by
  unfold stored
  have h1 : (dictEs ks).any (fun kv => decide (kv.1 = k)) = ks.contains k := by
    rw [← valueAt_dict]
    unfold dictEs
    induction ks with
    | nil => rfl
    | cons x r ih =>
      rw [List.map_cons, List.any_cons, ih]
      by_cases e : x = k
      · subst e; simp [valueAt]
      · simp [valueAt, e]
  rw [h1]
  split
  · unfold dictEs
    rw [List.map_map]
    refine List.map_congr_left fun x _ => ?_
    show (if x = k then (x, Value.bool true) else (x, Value.bool true)) = _
    split <;> rfl
  · unfold dictEs; rw [List.map_append]; rfl
theorem set_dict {d : Addr} {ks : List Int} {k : Int} {Q : Hp → Prop} (hu : Mine.Upd σ d (.dict ks) (.dict (if ks.contains k then ks else ks ++ [k])) σ') (hz : ks.length ≤ 100000) (h : Q σ') : TSet c n σ (.ref d) (.int k) (.bool true) Q :=
  fun A F env ow m s ov iv vv ha hs e1 e2 e3 => by
    obtain ⟨t, e2⟩ := e2
    have : ov = .ref d := e1
    subst ov e2
    have : vv = .bool true := e3
    subst vv
    obtain ⟨_, ob, hob, hr⟩ := hs.r.cell _ hu.mem
    refine wpAny_setItem_pairs (hsz := by unfold dictEs; rw [List.length_map, sizeLine_eq]; lia) (intKind_is _ _ k t) (Heap.dictOf_iff.mpr ⟨ob, hob, hr⟩) fun h' hd hsb => ?_
    obtain ⟨o', ho', hd'⟩ := Heap.dictOf_iff.mp hd
    rw [stored_dict] at hd'
    exact ⟨σ', h, hs.upd hu (fun b o q e => hsb.extBut b o q e) ho' hd'⟩
end
section
variable {c : Cx} {n : Nat} {sc : Scope} {σ σ' Z : Hp} {m m' : Lm}

theorem f_sorted0 {d : Addr} {Q : AV → Hp → Prop} (hm : (d, .dict []) ∈ σ) (hd : (d == sysModules) = false) (h : ∀ B, Q (.ref B) ((B, .list []) :: σ)) : TCB c n (.builtin "sorted") [.ref d] σ Q := fun A F env ow m s vs ha hs hv => by
  obtain ⟨v, rfl, e⟩ := VsRel.one hv
  have : v = .ref d := e
  subst this
  obtain ⟨_, ob, hob, hr⟩ := hs.r.cell _ hm
  obtain ⟨mm, hmm, FF, NN, back⟩ := hs.fr
  refine kdu_sortedD (knd := intKind c.prog c.w) (enc := PyData.int) (D := []) (fun k v hk => ?_) ha.hd FF NN ⟨hd, [], Heap.dictOf_iff.mpr ⟨ob, hob, hr⟩, .nil⟩ (by simp) fun B h' tk F' N' hlt => ?_
  · obtain ⟨t, rfl⟩ := Value.isInt_shape hk
    exact .int k t
  · have hb := (back h' tk F' fun p hp => N' p (.tail _ hp)).2
    have hB := (N' _ (.head _)).1
    have hs1 : St c F ((B, .list []) :: σ) env ow m { s with heap := h', toks := tk } := hs.newN hb (nwAll_fresh N' hlt) hB ⟨_, _, rfl, trivial⟩
    refine wpAny_call_entry PyProof.Rows.slot_list_sort ⟨_, hB, rfl⟩ PyProof.Rows.entry_list_sort (list_sort_tree (n := 0) (vs := []) (ns := []) hB .nil (by simp) fun out ns' hI hp hP => ⟨.none, rfl, ?_⟩) (PyProof.Rows.args_list_sort _)
    have hns : ns' = [] := List.Perm.eq_nil hp
    subst hns
    have hout : out = #[] := by
      have := hI.length
      exact Array.eq_empty_of_size_eq_zero (by simpa using this)
    subst hout
    have hlB : B < h'.objs.size := Heap.lt_size hB
    refine ex_ref (h B) (hs1.upd (tk := tk) (Mine.Upd.head) (fun b o q e => ?_) (ob := listOf #[] 0) ?_ ⟨_, _, rfl, trivial⟩)
    · unfold sortedHeap
      exact (Heap.SameBut.update _ _ _).extBut b o q (Heap.get?_push_of_some _ (Heap.get?_push_of_some _ ((Heap.SameBut.update _ _ _).extBut b o q e)))
    · unfold sortedHeap
      have h1 := get?_update_seq hB (fun _ => #[])
      have h2 := get?_update_seq (Heap.get?_push_of_some (seqObj "list" #[] 0) (Heap.get?_push_of_some (seqObj "tuple" ([] : List Value).toArray 0) h1)) (fun _ => #[])
      exact h2

/-! comparisons with None -/
theorem cm_ne_none {Q : Bool → Hp → Prop} (h : Q false σ) : TCmp c n σ .NotEq .none .none Q := fun A F env ow m s v w ha hs e1 e2 => by
  have : v = .none := e1
  have : w = .none := e2
  subst v w
  exact PySem.EqNone.ne_none_none ⟨_, _, rfl, h, hs⟩

/-! the keys are apart -/
theorem TC.nd {f : AV} {args : List AV} {Q : AV → Hp → Prop} (h : (σ.map (·.1)).Nodup → TC c n f args σ Q) : TC c n f args σ Q :=
  fun A F s fv vs ha hg hs hf hv => h hs.nd A F s fv vs ha hg hs hf hv
theorem mem_one {a : Addr} {o o' : AO} : ∀ {σ : Hp}, (σ.map (·.1)).Nodup → (a, o) ∈ σ → (a, o') ∈ σ → o = o'
  | p :: t, hn, h1, h2 => by
    rw [List.map_cons] at hn
    obtain ⟨n1, n2⟩ := List.nodup_cons.mp hn
    rcases List.mem_cons.mp h1 with e1 | h1 <;> rcases List.mem_cons.mp h2 with e2 | h2
    · rw [← e1] at e2; cases e2; rfl
    · exact absurd (by rw [← e1]; exact List.mem_map_of_mem (f := (·.1)) h2) n1
    · exact absurd (by rw [← e2]; exact List.mem_map_of_mem (f := (·.1)) h1) n1
    · exact mem_one n2 h1 h2
theorem mem_ne {a b : Addr} {o o' : AO} (hn : (σ.map (·.1)).Nodup) (h1 : (a, o) ∈ σ) (h2 : (b, o') ∈ σ) (hne : o ≠ o') : a ≠ b := fun e => hne (mem_one hn (e ▸ h1) h2)
end
section
variable {c : Cx} {n : Nat} {sc : Scope} {σ σ' σ'' Z : Hp} {m m' : Lm}

/-- some cells are forgotten, some are put in another order -/
noncomputable def Less (σ' σ : Hp) : Prop := ∃ τ : Hp, List.Perm τ σ' ∧ List.Sublist τ σ
theorem Less.refl : Less σ σ := ⟨σ, .refl _, List.Sublist.refl _⟩
theorem Less.drop {p : Addr × AO} (h : Less σ' σ) : Less σ' (p :: σ) := let ⟨τ, h1, h2⟩ := h; ⟨τ, h1, h2.cons p⟩
theorem Less.both {p : Addr × AO} (h : Less σ' σ) : Less (p :: σ') (p :: σ) := let ⟨τ, h1, h2⟩ := h; ⟨p :: τ, h1.cons p, h2.cons_cons p⟩
theorem Less.perm (h : σ'.Perm σ) : Less σ' σ := ⟨σ, h.symm, List.Sublist.refl _⟩
theorem Less.sub (h : σ'.Sublist σ) : Less σ' σ := ⟨σ', .refl _, h⟩
theorem sub_perm {τ τ' : Hp} (h1 : τ.Sublist τ') : ∀ {σ : Hp}, τ'.Perm σ → ∃ l : Hp, List.Perm l τ ∧ List.Sublist l σ := fun h2 => List.exists_perm_sublist h1 h2
theorem Less.trans (h1 : Less σ'' σ') (h2 : Less σ' σ) : Less σ'' σ := by
  obtain ⟨τ1, a1, a2⟩ := h1
  obtain ⟨τ2, b1, b2⟩ := h2
  obtain ⟨l, e1, e2⟩ := sub_perm a2 b1.symm
  exact ⟨l, e1.trans a1, e2.trans b2⟩
theorem Less.app (h : Less σ' σ) : Less (Z ++ σ') (Z ++ σ) := by
  induction Z with
  | nil => exact h
  | cons p Z ih => exact ih.both
theorem Less.right (Z : Hp) (h : Less σ' σ) : Less σ' (Z ++ σ) := by
  induction Z with
  | nil => exact h
  | cons p Z ih => exact ih.drop
theorem Less.mem {p : Addr × AO} (h : Less σ' σ) (hp : p ∈ σ') : p ∈ σ := let ⟨τ, h1, h2⟩ := h; h2.subset (h1.mem_iff.mpr hp)
theorem St.lessH {F : Fx} {env : Env} {ow : List (Str × Addr)} {s : Shared} (h : St c F σ env ow m s) (hl : Less σ' σ) : St c F σ' env ow m s := let ⟨τ, h1, h2⟩ := hl; (h.sub h2).perm h1.symm
theorem Rs.lessH {F : Fx} {s : Shared} (h : Rs c F σ s) (hl : Less σ' σ) : Rs c F σ' s := by
  obtain ⟨τ, h1, h2⟩ := hl
  have hm : ∀ p ∈ σ', p ∈ σ := fun p hp => h2.subset (h1.mem_iff.mpr hp)
  exact ⟨h.base, h.fix, fun p hp => h.cell p (hm p hp), (h1.map _).nodup_iff.mp ((h2.map _).nodup h.nd), h.os, h.gens⟩

noncomputable def Wk (Q : Hp → Prop) : Hp → Prop := fun σ => ∃ σ', Less σ' σ ∧ Q σ'
theorem wk {Q : Hp → Prop} (hl : Less σ' σ) (h : Q σ') : Wk Q σ := ⟨σ', hl, h⟩
theorem TC.weak {f : AV} {args : List AV} {Q : AV → Hp → Prop} (h : TC c n f args σ fun v => Wk (Q v)) : TC c n f args σ Q :=
  fun A F s fv vs ha hg hs hf hv => wpAny_mono (h A F s fv vs ha hg hs hf hv) (fun _ _ => PC.go fun av σ' h1 hx1 h3 => hx1.elim fun σ2 hx2 => ⟨av, σ2, h1, hx2.2, h3.lessH hx2.1⟩) fun _ _ x => x
theorem TX.weak {st : Stmt} {Qn : Hp → Lm → Prop} {Qr : AF → Hp → Lm → Prop} (h : TX c n sc σ m st (fun σ m => Wk (fun σ' => Qn σ' m) σ) (fun af σ m => Wk (fun σ' => Qr af σ' m) σ)) : TX c n sc σ m st Qn Qr :=
  fun A F env ow s ha he hs => wpAny_mono (h A F env ow s ha he hs) (fun _ _ => ex4 fun σ' m' h1 h2 => by
    rcases h1 with ⟨a, σ2, b, d⟩ | ⟨af, a, σ2, b, d⟩
    · exact ⟨σ2, m', .inl ⟨a, d⟩, h2.lessH b⟩
    · exact ⟨σ2, m', .inr ⟨af, a, d⟩, h2.lessH b⟩) fun _ _ x => x
theorem TS.weak {sts : List Stmt} {Qn : Hp → Lm → Prop} {Qr : AF → Hp → Lm → Prop} (h : TS c n sc σ m sts (fun σ m => Wk (fun σ' => Qn σ' m) σ) (fun af σ m => Wk (fun σ' => Qr af σ' m) σ)) : TS c n sc σ m sts Qn Qr :=
  fun A F env ow s ha he hs => wpAny_mono (h A F env ow s ha he hs) (fun _ _ => ex4 fun σ' m' h1 h2 => by
    rcases h1 with ⟨a, σ2, b, d⟩ | ⟨af, a, σ2, b, d⟩
    · exact ⟨σ2, m', .inl ⟨a, d⟩, h2.lessH b⟩
    · exact ⟨σ2, m', .inr ⟨af, a, d⟩, h2.lessH b⟩) fun _ _ x => x
theorem TS.lessH {sts : List Stmt} {Qn : Hp → Lm → Prop} {Qr : AF → Hp → Lm → Prop} (hl : Less σ' σ) (h : TS c n sc σ' m sts Qn Qr) : TS c n sc σ m sts Qn Qr :=
  fun A F env ow s ha he st => h A F env ow s ha he (st.lessH hl)
theorem TC.lessH {f : AV} {args : List AV} {Q : AV → Hp → Prop} (hl : Less σ' σ) (h : TC c n f args σ' Q) : TC c n f args σ Q :=
  fun A F s fv vs ha hg hs hf hv => h A F s fv vs ha hg (hs.lessH hl) hf hv
/-- ends of a def -/
noncomputable def rN (Q : AV → Hp → Prop) : Hp → Lm → Prop := fun σ _ => Wk (Q .none) σ
noncomputable def rR (Q : AV → Hp → Prop) : AF → Hp → Lm → Prop
  | .ret v, σ, _ => Wk (Q v) σ
  | _, _, _ => False
theorem rr {Q : AV → Hp → Prop} {v : AV} (hs : Less σ' σ) (h : Q v σ') : rR Q (.ret v) σ m := ⟨σ', hs, h⟩
theorem rn {Q : AV → Hp → Prop} (hs : Less σ' σ) (h : Q .none σ') : rN Q σ m := ⟨σ', hs, h⟩
theorem ends {scope : Scope} {body : List Stmt} {Q : AV → Hp → Prop} (h : TS c n scope σ m body (rN Q) (rR Q)) : TS c n scope σ m body (retN Q) (retR Q) := by
  refine TS.weak (h.mono (fun σ1 m1 => ex3 fun σ2 a b => ⟨σ2, a, σ2, List.Sublist.refl _, b⟩) fun af σ1 m1 x => ?_)
  cases af with
  | brk => exact x.elim
  | cont => exact x.elim
  | ret v => obtain ⟨σ2, a, b⟩ := x; exact ⟨σ2, a, σ2, List.Sublist.refl _, b⟩
theorem t_fn {f f' : Str} {params : Arguments} {body : List Stmt} {scope : Scope} {args : List AV} {Q : AV → Hp → Prop} (ns : List Str) (hd : defOf f = some ⟨f', params, body, scope⟩)
    (hb : ∀ pm code doc (vs : List Value), vs.length = ns.length → bindArgs (docDef f params body scope pm code doc) ⟨vs, []⟩ = pure (ns.zip vs))
    (hok : parsOk scope ns = true) (hl : ns.length = args.length)
    (h : (σ.map (·.1)).Nodup → TS c n scope σ (bindA (ns.zip args) fun _ => none) body (rN Q) (rR Q)) : TC c (n + 1) (.glob f) args σ Q :=
  .nd fun hn => t_def hd hb hok hl (ends (h hn))
theorem len1 {vs : List Value} (h : vs.length = 1) : ∃ a, vs = [a] := List.length_eq_one_iff.mp h
theorem lenS {k : Nat} {vs : List Value} (h : vs.length = k + 1) : ∃ a ws, vs = a :: ws ∧ ws.length = k := by
  cases vs with
  | nil => cases h
  | cons a ws => exact ⟨a, ws, rfl, Nat.succ.inj h⟩
theorem len2 {vs : List Value} (h : vs.length = 2) : ∃ a b, vs = [a, b] := by
  obtain ⟨a, ws, rfl, h2⟩ := lenS h
  obtain ⟨b, rfl⟩ := len1 h2
  exact ⟨a, b, rfl⟩
theorem len3 {vs : List Value} (h : vs.length = 3) : ∃ a b d, vs = [a, b, d] := by
  obtain ⟨a, ws, rfl, h2⟩ := lenS h
  obtain ⟨b, d, rfl⟩ := len2 h2
  exact ⟨a, b, d, rfl⟩
theorem len4 {vs : List Value} (h : vs.length = 4) : ∃ a b d e, vs = [a, b, d, e] := by
  obtain ⟨a, ws, rfl, h2⟩ := lenS h
  obtain ⟨b, d, e, rfl⟩ := len3 h2
  exact ⟨a, b, d, e, rfl⟩
theorem len5 {vs : List Value} (h : vs.length = 5) : ∃ a b d e f, vs = [a, b, d, e, f] := by
  obtain ⟨a, ws, rfl, h2⟩ := lenS h
  obtain ⟨b, d, e, f, rfl⟩ := len4 h2
  exact ⟨a, b, d, e, f, rfl⟩
theorem len6 {vs : List Value} (h : vs.length = 6) : ∃ a b d e f g, vs = [a, b, d, e, f, g] := by
  obtain ⟨a, ws, rfl, h2⟩ := lenS h
  obtain ⟨b, d, e, f, g, rfl⟩ := len5 h2
  exact ⟨a, b, d, e, f, g, rfl⟩
end
section
variable {c : Cx} {n : Nat} {sc : Scope} {σ σ' σ'' Z : Hp} {m m' : Lm}
theorem br_t {b : Bool} {X Y : Prop} (e : b = true) (h : X) : (b = true → X) ∧ (b = false → Y) := ⟨fun _ => h, fun q => by rw [e] at q; cases q⟩
theorem br_f {b : Bool} {X Y : Prop} (e : b = false) (h : Y) : (b = true → X) ∧ (b = false → Y) := ⟨fun q => (by rw [e] at q; cases q), fun _ => h⟩
theorem br_t' {b : Bool} {X Y : Prop} (e : b = true) (h : X) : (b = false → Y) ∧ (b = true → X) := ⟨fun q => (by rw [e] at q; cases q), fun _ => h⟩
theorem br_f' {b : Bool} {X Y : Prop} (e : b = false) (h : Y) : (b = false → Y) ∧ (b = true → X) := ⟨fun _ => h, fun q => by rw [e] at q; cases q⟩
theorem mem_hd {p : Addr × AO} : p ∈ p :: σ := .head _
theorem mem_tl {p q : Addr × AO} (h : p ∈ σ) : p ∈ q :: σ := .tail _ h
noncomputable def defNums : List (List Nat) := [[109, 97, 112, 95, 115, 108, 111, 116, 115], [114, 101, 99, 111, 114, 100, 115, 95, 111, 102, 95, 98, 108, 111, 99, 107], [114, 101, 99, 111, 114, 100, 115, 95, 111, 102, 95, 101, 120, 116, 101, 110, 116], [100, 105, 114, 101, 99, 116, 111, 114, 121, 95, 98, 108, 111, 99, 107, 115], [110, 101, 101, 100, 95, 119, 114, 105, 116, 97, 98, 108, 101], [110, 101, 119, 95, 101, 110, 116, 114, 121], [101, 110, 116, 114, 121, 95, 111, 99, 116, 101, 116, 115], [101, 110, 116, 114, 121, 95, 102, 114, 111, 109], [114, 97, 119, 95, 101, 110, 116, 114, 121], [114, 101, 97, 100, 95, 101, 110, 116, 114, 121], [119, 114, 105, 116, 101, 95, 101, 110, 116, 114, 121], [112, 117, 116, 95, 101, 110, 116, 114, 121], [102, 114, 101, 101, 95, 101, 110, 116, 114, 121], [108, 105, 118, 101, 95, 101, 110, 116, 114, 105, 101, 115], [117, 115, 101, 100, 95, 98, 108, 111, 99, 107, 115], [102, 114, 101, 101, 95, 98, 108, 111, 99, 107, 115], [109, 97, 112, 95, 111, 102], [109, 97, 112, 95, 111, 99, 116, 101, 116, 115], [110, 101, 97, 114, 101, 115, 116, 95, 102, 114, 101, 101], [97, 108, 108, 111, 99, 97, 116, 101], [114, 101, 99, 111, 114, 100, 95, 112, 108, 97, 99, 101], [114, 101, 97, 100, 95, 114, 101, 99, 111, 114, 100], [119, 114, 105, 116, 101, 95, 114, 101, 99, 111, 114, 100], [102, 97, 117, 108, 116, 115, 95, 111, 102], [112, 101, 101, 107], [112, 111, 107, 101], [111, 99, 116, 101, 116, 115, 95, 97, 116], [112, 117, 116, 95, 111, 99, 116, 101, 116, 115], [110, 97, 109, 101, 95, 97, 116], [101, 120, 116, 101, 110, 116, 95, 97, 116], [115, 101, 116, 95, 101, 120, 116, 101, 110, 116], [105, 115, 95, 99, 104, 97, 110, 103, 101, 100], [109, 97, 114, 107, 95, 99, 104, 97, 110, 103, 101, 100], [99, 111, 117, 110, 116, 95, 97, 116], [115, 101, 116, 95, 99, 111, 117, 110, 116], [99, 117, 114, 114, 101, 110, 116, 95, 97, 116], [115, 101, 116, 95, 99, 117, 114, 114, 101, 110, 116], [98, 108, 111, 99, 107, 115, 95, 97, 116], [115, 101, 116, 95, 98, 108, 111, 99, 107], [116, 97, 107, 101, 95, 101, 110, 116, 114, 121], [98, 101, 103, 105, 110, 95, 101, 120, 116, 101, 110, 116], [110, 101, 119, 95, 102, 99, 98], [109, 97, 116, 99, 104, 101, 115], [104, 97, 115, 95, 102, 108, 97, 103], [102, 105, 110, 100], [102, 105, 110, 100, 95, 101, 120, 116, 101, 110, 116], [101, 120, 105, 115, 116, 115], [109, 97, 107, 101], [109, 97, 107, 101, 95, 101, 120, 116, 101, 110, 116], [110, 101, 101, 100, 95, 99, 104, 97, 110, 103, 101, 97, 98, 108, 101], [112, 108, 97, 99, 101, 95, 111, 102], [115, 105, 122, 101, 95, 111, 102], [108, 97, 115, 116, 95, 98, 108, 111, 99, 107], [114, 101, 97, 100, 95, 97, 116], [119, 114, 105, 116, 101, 95, 97, 116], [99, 111, 100, 101, 95, 111, 102], [110, 101, 101, 100, 95, 119, 114, 105, 116, 97, 98, 108, 101, 95, 102, 105, 108, 101], [110, 101, 101, 100, 95, 119, 114, 105, 116, 97, 98, 108, 101, 95, 100, 105, 115, 107], [109, 101, 114, 103, 101, 100], [99, 108, 111, 115, 101, 95, 102, 105, 108, 101], [109, 97, 107, 101, 95, 102, 105, 108, 101], [108, 101, 97, 118, 101, 95, 101, 120, 116, 101, 110, 116], [98, 108, 97, 110, 107, 95, 98, 108, 111, 99, 107], [98, 108, 111, 99, 107, 95, 102, 111, 114], [119, 114, 105, 116, 101, 95, 104, 101, 114, 101], [103, 111, 95, 111, 110], [119, 114, 105, 116, 101, 95, 110, 101, 120, 116], [95, 108, 97, 119, 95, 110, 101, 120, 116], [95, 108, 97, 119, 95, 111, 99, 116, 101, 116, 115], [95, 108, 97, 119, 95, 108, 111, 115, 116], [95, 108, 97, 119, 95, 105, 115, 95, 116, 111, 108, 100], [95, 108, 97, 119, 95, 105, 115, 95, 115, 111, 117, 110, 100], [108, 97, 119]]
set_option maxRecDepth 100000 in
theorem defNums_ok : defNums.all (fun l => defNames.contains ⟨l.toArray⟩) = true := by decide +kernel
theorem t_call {f : Str} {p pos : Pos} {e : Expr} {es : List Expr} {Q : AV → Hp → Prop} (h : TEs c n sc m σ (e :: es) fun vs σ2 => TC c n (.glob f) vs σ2 Q)
    (hd : defNums.contains f.cps.toList = true := by with_unfolding_all exact rfl) (hk : sc.names.lookup f = some .globalImplicit := by with_unfolding_all exact rfl) (ho : okName f = true := by with_unfolding_all exact rfl) (hp : (e :: es).all noStar = true := by with_unfolding_all exact rfl) : TE c n sc σ m (.Call (.Name f p) (e :: es) [] pos) Q :=
  t_calld h (List.all_eq_true.mp defNums_ok f.cps.toList (by simpa using hd)) hk ho hp
theorem Less.pick {l : Addr} {o : AO} {σ0 : Hp} (hp : Pick σ l o σ0) (h : Less σ' σ0) : Less ((l, o) :: σ') σ := (Less.both h).trans (.perm hp.perm)
theorem Pick.exists {l : Addr} {O : AO} : ∀ {σ : Hp}, (l, O) ∈ σ → ∃ σ0, Pick σ l O σ0
  | _ :: _, .head _ => ⟨_, .head⟩
  | _ :: _, .tail _ h => let ⟨_, u⟩ := Pick.exists h; ⟨_, .tail u⟩
theorem Pick.rest {l : Addr} {O : AO} {σ0 : Hp} (hp : Pick σ l O σ0) {p : Addr × AO} (h : p ∈ σ) (hne : p ≠ (l, O)) : p ∈ σ0 := by
  rcases List.mem_cons.mp (hp.perm.mem_iff.mpr h) with e | e
  · exact absurd e hne
  · exact e
theorem Upd.mem_of {a : Addr} {A B : AO} {σ1 : Hp} (hn : (σ.map (·.1)).Nodup) (hu : Mine.Upd σ a A B σ1) {p : Addr × AO} (h : p ∈ σ) (hne : p.2 ≠ A) : p ∈ σ1 :=
  hu.forth p h fun e => hne (mem_one hn (a := a) (by rw [← e]; exact h) hu.mem)
theorem t_newE {p pos : Pos} {e : Expr} {es : List Expr} {Q : AV → Hp → Prop} (h : TEs c n sc m σ (e :: es) fun vs σ2 => TCC c n c.cE vs σ2 Q)
    (hk : sc.names.lookup ("Entry" : Str) = some .globalImplicit := by with_unfolding_all exact rfl) (hp : (e :: es).all noStar = true := by with_unfolding_all exact rfl) : TE c n sc σ m (.Call (.Name "Entry" p) (e :: es) [] pos) Q :=
  t_callc c.nE (c.cls _ (.inr rfl)).2.1 h hk rfl hp
theorem t_newD {p pos : Pos} {e : Expr} {es : List Expr} {Q : AV → Hp → Prop} (h : TEs c n sc m σ (e :: es) fun vs σ2 => TCC c n c.cD vs σ2 Q)
    (hk : sc.names.lookup ("Disk" : Str) = some .globalImplicit := by with_unfolding_all exact rfl) (hp : (e :: es).all noStar = true := by with_unfolding_all exact rfl) : TE c n sc σ m (.Call (.Name "Disk" p) (e :: es) [] pos) Q :=
  t_callc c.nD (c.cls _ (.inl rfl)).2.1 h hk rfl hp
theorem i_int {l : Addr} {xs : List Int} {k : Int} {v : Int} {Q : AV → Hp → Prop} (hm : (l, .list (aints xs)) ∈ σ) (hv : xs[k.toNat]? = some v) (h : Q (.int v) σ) (hk : 0 ≤ k := by decide) (hk2 : k < 2 ^ 62 := by decide) : TIdx c n σ (.ref l) (.int k) Q :=
  i_list hm hk hk2 (v := .int v) (by unfold aints; rw [List.getElem?_map, hv]; rfl) h
theorem q_int {Q : AV → Hp → Prop} {i j : Int} (h : Q (.int j) σ) (e : i = j) : Q (.int i) σ := e ▸ h
end
section
variable {c : Cx} {n : Nat} {sc : Scope} {σ σ' σ'' Z : Hp} {m m' : Lm}

noncomputable def Has (m m' : Lm) : Prop := ∀ x v, m x = some v → m' x = some v
theorem Has.refl : Has m m := fun _ _ h => h
theorem Has.put {x : Str} {v : AV} (h : Has m m') (hx : m x = none) : Has m (mput m' x v) := fun y w hy => by
  unfold mput
  by_cases e : y = x
  · rw [e, hx] at hy; cases hy
  · rw [if_neg e]; exact h y w hy
theorem TA.less {t : Expr} {a : AV} {Q : Hp → Lm → Prop} (hl : Has m m') (h : TA c n sc σ m t a Q) : TA c n sc σ m' t a Q :=
  fun A F env ow s v ha he hs hv => h A F env ow s v ha he (hs.less hl) hv
theorem TAs.less {ts : List Expr} {as : List AV} {Q : Hp → Lm → Prop} (hl : Has m m') (hne : ts ≠ []) (h : TAs c n sc σ m ts as Q) : TAs c n sc σ m' ts as Q := by
  cases ts with
  | nil => exact absurd rfl hne
  | cons t ts =>
    cases as with
    | nil => exact h
    | cons a as => exact TA.less hl h
theorem TV.less {t : Expr} {iv : IV} {Q : Hp → Lm → Prop} (hl : Has m m') (h : TV c n sc σ m t iv Q) : TV c n sc σ m' t iv Q := by
  cases iv with
  | val a => exact TA.less hl h
  | pair a b =>
    obtain ⟨t1, t2, k, p, e, n1, n2, h⟩ := h
    exact ⟨t1, t2, k, p, e, n1, n2, h.less hl (by simp)⟩
theorem TAs.mono {Q Q' : Hp → Lm → Prop} (hq : ∀ σ m, Q σ m → Q' σ m) : ∀ {ts : List Expr} {as : List AV} {σ : Hp} {m : Lm}, TAs c n sc σ m ts as Q → TAs c n sc σ m ts as Q' := by
  intro ts
  induction ts with
  | nil => intro as σ m h; cases as with
    | nil => exact hq _ _ h
    | cons a as => exact h.elim
  | cons t ts ih => intro as σ m h; cases as with
    | nil => exact h.elim
    | cons a as => exact TA.mono h fun _ _ h1 => ih h1
theorem TV.mono {t : Expr} {iv : IV} {Q Q' : Hp → Lm → Prop} (hq : ∀ σ m, Q σ m → Q' σ m) (h : TV c n sc σ m t iv Q) : TV c n sc σ m t iv Q' := by
  cases iv with
  | val a => exact TA.mono h hq
  | pair a b =>
    obtain ⟨t1, t2, k, p, e, n1, n2, h⟩ := h
    exact ⟨t1, t2, k, p, e, n1, n2, TAs.mono hq h⟩

theorem TIt.mono {iter target : Expr} {Q Q' : List IV → Hp → Hp → Prop} (h : TIt c n sc σ m iter target Q) (hq : ∀ xs Z σ, Q xs Z σ → Q' xs Z σ) : TIt c n sc σ m iter target Q' :=
  fun A F env ow s ha he hs => wpAny_mono (h A F env ow s ha he hs) (fun _ _ h1 => wpAny_mono h1 (fun _ _ hx1 => hx1.imp fun xs hx2 => hx2.imp fun Z hx3 => hx3.imp fun σ' hx4 => ⟨hq _ _ _ hx4.1, hx4.2⟩) fun _ _ x => x) fun _ _ x => x
/-- how a turn of a loop whose outer names stay ends -/
noncomputable def endN (J : Hp → Prop) (m : Lm) : Hp → Lm → Prop := fun σ m' => J σ ∧ Has m m'
noncomputable def endR (J : Hp → Prop) (m : Lm) (Z : Hp) (Qn : Hp → Lm → Prop) (Qr : AF → Hp → Lm → Prop) : AF → Hp → Lm → Prop
  | .cont, σ, m' => J σ ∧ Has m m'
  | .brk, σ, m' => Wk (fun σ' => Qn σ' m) (Z ++ σ) ∧ Has m m'
  | .ret v, σ, m' => Wk (fun σ' => Qr (.ret v) σ' m') (Z ++ σ)
noncomputable def LoopH (c : Cx) (n : Nat) (sc : Scope) (m : Lm) (target : Expr) (body : List Stmt) (Qn : Hp → Lm → Prop) (Qr : AF → Hp → Lm → Prop) (xs : List IV) (Z σ0 : Hp) : Prop :=
  ∃ J : Nat → Hp → Prop, J 0 σ0 ∧
      (∀ i iv σ, xs[i]? = some iv → J i σ → TV c n sc σ m target iv fun σ' m' => TS c n sc σ' m' body (endN (J (i + 1)) m) (endR (J (i + 1)) m Z Qn Qr)) ∧
      ∀ σ, J xs.length σ → Wk (fun σ' => Qn σ' m) (Z ++ σ)
/-- a loop that leaves the outer names as they were -/
theorem s_forH {target iter : Expr} {body : List Stmt} {pos : Pos} {Qn : Hp → Lm → Prop} {Qr : AF → Hp → Lm → Prop}
    (h : TIt c n sc σ m iter target (LoopH c n sc m target body Qn Qr))
    (hQ : ∀ σ m', Has m m' → Qn σ m → Qn σ m')
    (hfs : ∀ (env : Env) x, foldedSetIterable iter env x = pure x := by intro _ _; rfl) : TX c n sc σ m (.For target iter body [] pos) Qn Qr := by
  refine TX.weak (s_for (h.mono fun xs Z σ0 hx1 => ?_) hfs)
  obtain ⟨J, h0, turn, fin⟩ := hx1
  refine ⟨fun i σ mi => J i σ ∧ Has m mi, ⟨h0, .refl⟩, fun i iv σ mi hi hx => ?_, fun σ mi hx => ?_⟩
  · obtain ⟨hJ, hm⟩ := hx
    refine (TV.less hm (turn i iv σ hi hJ)).mono fun σ1 m1 h1 => ?_
    refine TS.mono h1 (fun σ2 m2 h2 => h2) fun af σ2 m2 h2 => ?_
    cases af with
    | cont => exact h2
    | brk => obtain ⟨⟨σ3, a, b⟩, hm2⟩ := h2; exact ⟨σ3, a, hQ _ _ hm2 b⟩
    | ret v => exact h2
  · obtain ⟨hJ, hm⟩ := hx
    obtain ⟨σ3, a, b⟩ := fin σ hJ
    exact ⟨σ3, a, hQ _ _ hm b⟩
theorem TS.hasN {rest : List Stmt} {Qn : Hp → Lm → Prop} {Qr : AF → Hp → Lm → Prop} : ∀ σ m', Has m m' → TS c n sc σ m rest Qn Qr → TS c n sc σ m' rest Qn Qr := fun _ _ hl h => TS.less hl h
theorem enumL_get {vs : List AV} {i : Nat} {iv : IV} (h : (enumL vs)[i]? = some iv) : ∃ a, vs[i]? = some a ∧ iv = .pair (.int i) a := by
  unfold enumL at h
  rw [List.getElem?_map, List.getElem?_zipIdx] at h
  cases e : vs[i]? with
  | none => rw [e] at h; cases h
  | some a => rw [e] at h; simp at h; exact ⟨a, rfl, h.symm⟩
theorem enumL_len {vs : List AV} : (enumL vs).length = vs.length := by simp [enumL]
theorem upto_get {k i : Nat} {iv : IV} (h : (upto 0 k)[i]? = some iv) : i < k ∧ iv = .val (.int i) := by
  unfold upto at h
  rw [List.getElem?_map] at h
  cases e : (List.range k)[i]? with
  | none => rw [e] at h; cases h
  | some a =>
    rw [e] at h
    obtain ⟨h1, h2⟩ := List.getElem?_eq_some_iff.mp e
    simp at h1 h2 h
    subst h2
    exact ⟨h1, h.symm⟩
theorem upto_len {k : Nat} : (upto 0 k).length = k := by simp [upto]
theorem zipL_get {xs ys : List AV} {i : Nat} {iv : IV} (h : (zipL xs ys)[i]? = some iv) : ∃ a b, xs[i]? = some a ∧ ys[i]? = some b ∧ iv = .pair a b := by
  unfold zipL at h
  rw [List.getElem?_map] at h
  cases e : (xs.zip ys)[i]? with
  | none => rw [e] at h; cases h
  | some p =>
    rw [e] at h
    simp at h
    obtain ⟨h1, h2⟩ := List.getElem?_zip_eq_some.mp e
    exact ⟨p.1, p.2, h1, h2, h.symm⟩
theorem map_get {vs : List AV} {i : Nat} {iv : IV} (h : (vs.map IV.val)[i]? = some iv) : ∃ a, vs[i]? = some a ∧ iv = .val a := by
  rw [List.getElem?_map] at h
  cases e : vs[i]? with
  | none => rw [e] at h; cases h
  | some a => rw [e] at h; simp at h; exact ⟨a, rfl, h.symm⟩
theorem aints_get {xs : List Int} {i : Nat} {a : AV} (h : (aints xs)[i]? = some a) : ∃ v, xs[i]? = some v ∧ a = .int v := by
  unfold aints at h
  rw [List.getElem?_map] at h
  cases e : xs[i]? with
  | none => rw [e] at h; cases h
  | some v => rw [e] at h; simp at h; exact ⟨v, rfl, h.symm⟩
end
section
variable {c : Cx} {n : Nat} {sc : Scope} {σ σ' σ'' Z : Hp} {m m' : Lm}
theorem Upd.split {a : Addr} {A B : AO} (h : Mine.Upd σ a A B σ') : ∃ σr : Hp, σ.Perm ((a, A) :: σr) ∧ σ'.Perm ((a, B) :: σr) := by
  induction h with
  | head => exact ⟨_, .refl _, .refl _⟩
  | @tail p t a o o' t' h ih =>
    obtain ⟨σr, h1, h2⟩ := ih
    exact ⟨p :: σr, (h1.cons p).trans (.swap _ _ _), (h2.cons p).trans (.swap _ _ _)⟩
theorem TC.upd {f : AV} {args : List AV} {a : Addr} {A B : AO} {r : AV} {Q : AV → Hp → Prop} (hu : Mine.Upd σ a A B σ') (hq : Q r σ')
    (h : ∀ σr : Hp, (∀ p ∈ σ, p.2 ≠ A → p ∈ σr) → (((a, A) :: σr).map (·.1)).Nodup → TC c n f args ((a, A) :: σr) fun v τ => v = r ∧ τ = (a, B) :: σr) : TC c n f args σ Q := .nd fun hn => by
  obtain ⟨σr, h1, h2⟩ := hu.split
  have hn' : (((a, A) :: σr).map (·.1)).Nodup := ((h1.map (·.1)).nodup_iff).mp hn
  refine TC.weak (TC.lessH (Less.perm h1.symm) ((h σr (fun p hp hne => ?_) hn').mono fun v τ hx1 => hx1.elim fun e1 e2 => ?_))
  · rcases List.mem_cons.mp (h1.mem_iff.mp hp) with e | e
    · exact absurd (by rw [e]) hne
    · exact e
  · subst e1 e2
    exact ⟨σ', Less.perm h2, hq⟩
theorem tv_val {t : Expr} {a : AV} {Q : Hp → Lm → Prop} (h : TA c n sc σ m t a Q) : TV c n sc σ m t (.val a) Q := h
theorem tv_pair {t1 t2 : Expr} {k : Nat} {p : Pos} {a b : AV} {Q : Hp → Lm → Prop} (h : TAs c n sc σ m [t1, t2] [a, b] Q) (h1 : noStar t1 = true) (h2 : noStar t2 = true) : TV c n sc σ m (.Tuple [t1, t2] k p) (.pair a b) Q := ⟨_, _, _, _, rfl, h1, h2, h⟩
/-- for x in enumerate(name) / range(..) -/
theorem TIt.range {e : Expr} {p pos : Pos} {target : Expr} {Q : List IV → Hp → Hp → Prop} (h : TE c n sc σ m e fun v σ1 => ∃ k : Nat, v = .int k ∧ k ≤ 100000 ∧ Q (upto 0 k) [] σ1)
    (hk : sc.names.lookup ("range" : Str) = some .globalImplicit) (hp : [e].all noStar = true) : TIt c n sc σ m (.Call (.Name "range" p) [e] [] pos) target Q :=
  it_call (v := .type "range") rfl .type (h.mono fun v σ1 hx1 => by obtain ⟨k, e1, e2, e3⟩ := hx1; subst e1; exact it_range (by lia) (by lia) e3) hk rfl hp
theorem TIt.enum {e : Expr} {p pos q : Pos} {ts : List Expr} {kk : Nat} {Q : List IV → Hp → Hp → Prop} (h : TE c n sc σ m e fun v σ1 => ∃ l vs σ0, v = .ref l ∧ Pick σ1 l (.list vs) σ0 ∧ Q (enumL vs) [(l, .list vs)] σ0)
    (hk : sc.names.lookup ("enumerate" : Str) = some .globalImplicit) (hp : [e].all noStar = true) : TIt c n sc σ m (.Call (.Name "enumerate" p) [e] [] pos) (.Tuple ts kk q) Q :=
  it_call (v := .type "enumerate") rfl .type (h.mono fun v σ1 hx1 => by obtain ⟨l, vs, σ0, e1, e2, e3⟩ := hx1; subst e1; exact it_enum e2 e3) hk rfl hp
theorem TIt.zip {e f : Expr} {p pos q : Pos} {ts : List Expr} {kk : Nat} {Q : List IV → Hp → Hp → Prop} (h : TE c n sc σ m e fun v σ1 => TE c n sc σ1 m f fun w σ2 => ∃ l vs l' vs' σ3 σ0, v = .ref l ∧ w = .ref l' ∧ Pick σ2 l (.list vs) σ3 ∧ Pick σ3 l' (.list vs') σ0 ∧ Q (zipL vs vs') [(l, .list vs), (l', .list vs')] σ0)
    (hk : sc.names.lookup ("zip" : Str) = some .globalImplicit) (hp : [e, f].all noStar = true) : TIt c n sc σ m (.Call (.Name "zip" p) [e, f] [] pos) (.Tuple ts kk q) Q :=
  it_call (v := .type "zip") rfl .type (h.mono fun v σ1 h2 => h2.mono fun w σ2 hx1 => by obtain ⟨l, vs, l', vs', σ3, σ0, e1, e2, e3, e4, e5⟩ := hx1; subst e1 e2; exact it_zip e3 e4 e5) hk rfl hp
theorem TA.lessH {t : Expr} {a : AV} {Q : Hp → Lm → Prop} (hl : Less σ' σ) (h : TA c n sc σ' m t a Q) : TA c n sc σ m t a Q :=
  fun A F env ow s v ha he hs hv => h A F env ow s v ha he (hs.lessH hl) hv
theorem TAs.lessH {ts : List Expr} {as : List AV} {Q : Hp → Lm → Prop} (hl : Less σ' σ) (hne : ts ≠ []) (h : TAs c n sc σ' m ts as Q) : TAs c n sc σ m ts as Q := by
  cases ts with
  | nil => exact absurd rfl hne
  | cons t ts =>
    cases as with
    | nil => exact h
    | cons a as => exact TA.lessH hl h
theorem TV.lessH {t : Expr} {iv : IV} {Q : Hp → Lm → Prop} (hl : Less σ' σ) (h : TV c n sc σ' m t iv Q) : TV c n sc σ m t iv Q := by
  cases iv with
  | val a => exact TA.lessH hl h
  | pair a b =>
    obtain ⟨t1, t2, k, p, e, n1, n2, h⟩ := h
    exact ⟨t1, t2, k, p, e, n1, n2, h.lessH hl (by simp)⟩
noncomputable def LoopW (c : Cx) (n : Nat) (sc : Scope) (m : Lm) (target : Expr) (body : List Stmt) (Qn : Hp → Lm → Prop) (Qr : AF → Hp → Lm → Prop) (xs : List IV) (Z σ0 : Hp) : Prop :=
  ∃ J : Nat → Hp → Prop, Wk (J 0) σ0 ∧
      (∀ i iv σ, xs[i]? = some iv → J i σ → TV c n sc σ m target iv fun σ' m' => TS c n sc σ' m' body (endN (Wk (J (i + 1))) m) (endR (Wk (J (i + 1))) m Z Qn Qr)) ∧
      ∀ σ, J xs.length σ → Wk (fun σ' => Qn σ' m) (Z ++ σ)
theorem LoopW.toH {target : Expr} {body : List Stmt} {Qn : Hp → Lm → Prop} {Qr : AF → Hp → Lm → Prop} {xs : List IV} {σ0 : Hp} (h : LoopW c n sc m target body Qn Qr xs Z σ0) : LoopH c n sc m target body Qn Qr xs Z σ0 := by
  obtain ⟨J, h0, h1, h2⟩ := h
  refine ⟨fun i => Wk (J i), h0, fun i iv σ hi => ex3 fun σ' hl hJ => TV.lessH hl (h1 i iv σ' hi hJ), fun σ => ex3 fun σ' hl hJ => ?_⟩
  obtain ⟨σ3, a, b⟩ := h2 σ' hJ
  exact ⟨σ3, a.trans hl.app, b⟩
theorem Less.mid {p : Addr × AO} {ρ τ : Hp} : Less (p :: (ρ ++ τ)) (ρ ++ p :: τ) := .perm List.perm_middle.symm
theorem wk0 {J : Hp → Prop} (h : J σ) : Wk J σ := ⟨σ, .refl, h⟩
theorem en {J : Hp → Prop} {m m' : Lm} (hl : Less σ' σ) (hm : Has m m') (h : J σ') : endN (Wk J) m σ m' := ⟨⟨σ', hl, h⟩, hm⟩
theorem x_for {target iter : Expr} {body : List Stmt} {pos : Pos} {Qn : Hp → Lm → Prop} {Qr : AF → Hp → Lm → Prop} {rest : List Stmt}
    (h : TIt c n sc σ m iter target (LoopW c n sc m target body (fun σ' m' => TS c n sc σ' m' rest Qn Qr) Qr))
    (hfs : ∀ (env : Env) x, foldedSetIterable iter env x = pure x := by intro _ _; rfl) : TX c n sc σ m (.For target iter body [] pos) (fun σ' m' => TS c n sc σ' m' rest Qn Qr) Qr := s_forH (h.mono fun _ _ _ h => h.toH) TS.hasN hfs
/-- the names of a loop's turn -/
theorem has1 {x : Str} {a : AV} (h : m x = none) : Has m (mput m x a) := Has.refl.put h
theorem has2 {x y : Str} {a b : AV} (h : m x = none) (h2 : m y = none) : Has m (mput (mput m x a) y b) := (Has.refl.put h).put h2
theorem tt_nil {X Y : Hp → Prop} (h : Y σ) : TT c n sc σ m [] fun ok σ'' => (ok = false → X σ'') ∧ (ok = true → Y σ'') := ⟨fun q => (by cases q), fun _ => h⟩
theorem tt_one {t : Expr} {Q : Bool → Hp → Prop} (h : TB c n sc σ m t Q) : TT c n sc σ m [t] Q := h
theorem abools_set {xs : List Bool} {i : Nat} {v : Bool} : (abools xs).set i (.bool v) = abools (xs.set i v) := by simp [abools]
theorem abools_get {xs : List Bool} {i : Nat} {a : AV} (h : (abools xs)[i]? = some a) : ∃ v, xs[i]? = some v ∧ a = .bool v := by
  unfold abools at h
  rw [List.getElem?_map] at h
  cases e : xs[i]? with
  | none => rw [e] at h; cases h
  | some v => rw [e] at h; simp at h; exact ⟨v, rfl, h.symm⟩
theorem nn_ref {x : Addr} : (!(AV.ref x).isNone) = true := rfl
theorem n_ref {x : Addr} : (AV.ref x).isNone = false := rfl
theorem nn_int {x : Int} : (!(AV.int x).isNone) = true := rfl
theorem n_int {x : Int} : (AV.int x).isNone = false := rfl
theorem aints_set {xs : List Int} {i : Nat} {v : Int} : (aints xs).set i (.int v) = aints (xs.set i v) := by simp [aints]
end
section
variable {c : Cx} {n : Nat} {sc : Scope} {σ σ' σ'' Z : Hp} {m m' : Lm}
/-- a loop by a measure; the names that count are those of the invariant -/
theorem x_whileH {test : Expr} {body : List Stmt} {pos : Pos} {Qn : Hp → Lm → Prop} {Qr : AF → Hp → Lm → Prop} (J : Nat → Hp → Lm → Prop) (N : Nat) (h0 : ∃ m', Has m' m ∧ J N σ m')
    (turn : ∀ k σ m, J k σ m → TB c n sc σ m test fun b σ1 => (b = true → TS c n sc σ1 m body (fun σ2 m2 => ∃ j, j < k ∧ ∃ m', Has m' m2 ∧ J j σ2 m') fun af σ2 m2 => match af with
        | .cont => False
        | .brk => False
        | .ret v => Qr (.ret v) σ2 m2) ∧ (b = false → Qn σ1 m)) : TX c n sc σ m (.While test body [] pos) Qn Qr :=
  fun A F env ow s ha he hs => by
    refine wpAny_While (codeAny_whileLoop (fun k s' => ∃ σ m, J k σ m ∧ St c F σ env ow m s') ?_ N (by obtain ⟨m', hl, hJ⟩ := h0; exact ⟨σ, m', hJ, hs.less hl⟩))
    rintro k s' ⟨σ, m, hJ, hs'⟩
    refine wpAny_mono (turn k σ m hJ A F env ow s' ha he.toEnvOk hs') (fun b s1 => ex3 fun σ1 hx hs1 => hx.elim fun h1 h2 => ?_) fun _ _ x => x.elim
    cases b with
    | true =>
      rw [if_pos rfl]
      refine wpAny_mono (h1 rfl A F env ow s1 ha he hs1) (fun f s2 => ex4 fun σ2 m2 h2 hs2 => ?_) fun _ _ x => x.elim
      rcases h2 with ⟨rfl, j, hj, m', hl, h2⟩ | ⟨af, r, h2⟩
      · exact ⟨j, hj, σ2, m', h2, hs2.less hl⟩
      · cases af with
        | brk => exact h2.elim
        | cont => exact h2.elim
        | ret v => obtain ⟨vv, rfl, r⟩ := r; exact ⟨σ2, m2, .inr ⟨.ret v, ⟨vv, rfl, r⟩, h2⟩, hs2⟩
    | false =>
      rw [if_neg Bool.false_ne_true]
      exact wpAny_execs_nil ⟨σ1, m, .inl ⟨rfl, h2 rfl⟩, hs1⟩
theorem Less.flip {a τ : Hp} : Less (a ++ (τ ++ σ)) (τ ++ (a ++ σ)) := .perm (List.perm_append_comm_assoc a τ σ)
noncomputable def WkM (J : Hp → Lm → Prop) : Hp → Lm → Prop := fun σ m => ∃ σ' m', Less σ' σ ∧ Has m' m ∧ J σ' m'
/-- a loop that changes outer names, with returns -/
theorem s_forM {target iter : Expr} {body : List Stmt} {pos : Pos} {Qn : Hp → Lm → Prop} {Qr : AF → Hp → Lm → Prop}
    (h : TIt c n sc σ m iter target fun xs Z σ0 => ∃ J : Nat → Hp → Lm → Prop, WkM (J 0) σ0 m ∧
      (∀ i iv σ m, xs[i]? = some iv → J i σ m → TV c n sc σ m target iv fun σ' m' => TS c n sc σ' m' body (WkM (J (i + 1))) fun af σ'' m'' => match af with
        | .cont => False
        | .brk => False
        | .ret v => Wk (fun σ3 => Qr (.ret v) σ3 m'') (Z ++ σ'')) ∧
      ∀ σ m, J xs.length σ m → WkM Qn (Z ++ σ) m)
    (hQ : ∀ σ m m', Has m m' → Qn σ m → Qn σ m')
    (hfs : ∀ (env : Env) x, foldedSetIterable iter env x = pure x := by intro _ _; rfl) : TX c n sc σ m (.For target iter body [] pos) Qn Qr := by
  refine TX.weak (s_for (h.mono fun xs Z σ0 hx1 => ?_) hfs)
  obtain ⟨J, h0, turn, fin⟩ := hx1
  refine ⟨fun i => WkM (J i), h0, fun i iv σ mi hi => ex5 fun σ' m' hl hm hJ => ?_, fun σ mi => ex5 fun σ' m' hl hm hJ => ?_⟩
  · refine TV.lessH hl (TV.less hm ((turn i iv σ' m' hi hJ).mono fun σ1 m1 h1 => ?_))
    refine TS.mono h1 (fun σ2 m2 h2 => h2) fun af σ2 m2 h2 => ?_
    cases af with
    | cont => exact h2.elim
    | brk => exact h2.elim
    | ret v => exact h2
  · obtain ⟨σ3, m3, a, b, d⟩ := fin σ' m' hJ
    exact ⟨σ3, a.trans hl.app, hQ _ _ _ (fun x v hx => hm x v (b x v hx)) d⟩
theorem x_assign_attr {o value : Expr} {x : Str} {p pos : Pos} {Qn : Hp → Lm → Prop} {Qr : AF → Hp → Lm → Prop} (h : TE c n sc σ m value fun v σ1 => TA c n sc σ1 m (.Attribute o x p) v Qn) : TX c n sc σ m (.Assign [.Attribute o x p] value pos) Qn Qr :=
  fun A F env ow s ha he hs => by
    have hsw : swapsWithSole [.Attribute o x p] value pos.line env = pure false := by cases value <;> rfl
    have hss : swappedStores [.Attribute o x p] value env = pure none := rfl
    rw [arm_exec_Assign, hsw, hss]
    refine wpAny_bind (wpAny_standAt (wpAny_bind (wpAny_pure (wpAny_bind (wpAny_mono (h A F env ow s ha he.toEnvOk hs) (fun v s1 => PE.go fun av σ1 r1 h1 hs1 => ?_) fun _ _ x => x)))))
    refine wpAny_bind (wpAny_pure ?_)
    rw [asEach_cons rfl]
    show wpAny _ A (do assignAll v [assign _ env]; pure Flow.next) _ _ s1
    exact wpAny_bind (wpAny_mono (h1 A F env ow s1 v ha he.toEnvOk hs1 r1) (fun _ s2 => ex4 fun σ2 m2 h2 hs2 => wpAny_pure ⟨σ2, m2, .inl ⟨rfl, h2⟩, hs2⟩) fun _ _ x => x)
end
section
variable {c : Cx} {n : Nat} {sc : Scope} {σ σ' σ0 Z : Hp} {m m' : Lm} {F F' : Fx} {env : Env} {ow : List (Str × Addr)} {s s2 s' : Shared} {wr : List Addr}
/-! comprehensions of two clauses -/
section
variable {t1 it1 t2 it2 elt : Expr} {scope : Scope} {pos : Pos} {it acc : Value} {A : Around} {R : Result → Shared → Prop}
noncomputable abbrev LC2 (elt t1 it1 t2 it2 : Expr) (scope : Scope) (pos : Pos) : Expr := .ListComp elt [⟨t1, it1, [], 0⟩, ⟨t2, it2, [], 0⟩] scope pos
theorem compTurn2_0 : compTurn (LC2 elt t1 it1 t2 it2 scope pos) 0 it acc env = (standAt it1.pos >>= fun _ => pyNext it >>= fun r => match r with
      | none => pure (.done .next)
      | some v => letOwnedTupleGo t1 it v >>= fun _ => assign t1 env v >>= fun _ =>
        (eval it2 env >>= fun x => standAt it2.pos >>= fun _ => foldedSetIterable it2 env x >>= fun x => holding [x] (pyIter x) >>= fun it' => runOwn (.compStart (LC2 elt t1 it1 t2 it2 scope pos) 1 it' acc env) env >>= fun _ => again (.compLoop (LC2 elt t1 it1 t2 it2 scope pos) 0 it acc env))) := by rfl
theorem compTurn2_1 : compTurn (LC2 elt t1 it1 t2 it2 scope pos) 1 it acc env = (standAt it2.pos >>= fun _ => pyNext it >>= fun r => match r with
      | none => pure (.done .next)
      | some v => letOwnedTupleGo t2 it v >>= fun _ => assign t2 env v >>= fun _ =>
        (eval elt env >>= fun x => call (.builtin "list.append") [acc, x] >>= fun _ => pure ()) >>= fun _ =>
          again (.compLoop (LC2 elt t1 it1 t2 it2 scope pos) 1 it acc env)) := by rfl
theorem compLoop2_1 (I : Nat → Shared → Prop)
    (turn : ∀ k s, I k s → wpAny (model c.prog c.w) A (pyNext it) (fun r s₁ => match r with
      | none => R (.ok .next) s₁
      | some v => wpAny (model c.prog c.w) A (letOwnedTupleGo t2 it v) (fun _ s₁' => wpAny (model c.prog c.w) A (assign t2 env v) (fun _ s₂ =>
          wpAny (model c.prog c.w) A (eval elt env) (fun x s₄ =>
              wpAny (model c.prog c.w) A (call (.builtin "list.append") [acc, x]) (fun _ s₅ => ∃ j, j < k ∧ I j s₅) (fun _ _ => False) s₄) (fun _ _ => False) s₂) (fun _ _ => False) s₁') (fun _ _ => False) s₁) (fun _ _ => False) s)
    (k : Nat) (h : I k s) :
    codeAny (model c.prog c.w) A (.compLoop (LC2 elt t1 it1 t2 it2 scope pos) 1 it acc env) R s := by
  refine codeAny_loop rfl I (fun k s hI => ?_) k h
  show wpAny _ A ((compTurn (LC2 elt t1 it1 t2 it2 scope pos) 1 it acc env).onRaise (fun x => do noteFrame x env; theTreesLotGoes x)) _ _ s
  refine wpAny_noted (wpAny_mono (E := fun _ _ => False) ?_ (fun _ _ x => x) fun _ _ x => x.elim)
  rw [compTurn2_1]
  refine wpAny_bind (wpAny_standAt (wpAny_bind (wpAny_mono (turn k s hI) (fun r s₁ h₁ => ?_) fun _ _ h' => h')))
  cases r with
  | none => exact wpAny_pure h₁
  | some v =>
    refine wpAny_bind (wpAny_mono h₁ (fun _ s₁' h₁' => ?_) fun _ _ h' => h')
    refine wpAny_bind (wpAny_mono h₁' (fun _ s₂ h₂ => ?_) fun _ _ h' => h')
    exact wpAny_bind (wpAny_bind (wpAny_mono h₂ (fun x s₄ h₄ => wpAny_bind (wpAny_mono h₄ (fun _ s₅ h₅ => wpAny_pure (wpAny_pure ⟨rfl, h₅⟩)) fun _ _ h' => h')) fun _ _ h' => h'))
/-- the second clause's beginning, written out -/
theorem compStart2_eq : compStart (LC2 elt t1 it1 t2 it2 scope pos) 1 it acc env = (ask >>= fun w => if w.params.followText "comprehension-iter-twice" = true then again (.compLoop (LC2 elt t1 it1 t2 it2 scope pos) 1 it acc env) else
    rule "comprehension.iter-twice" >>= fun _ => standAt it2.pos >>= fun _ => pyIter it >>= fun it' => again (.compLoop (LC2 elt t1 it1 t2 it2 scope pos) 1 it' acc env)) := by rfl
theorem compStart2_1
    (h0 : codeAny (model c.prog c.w) A (.compLoop (LC2 elt t1 it1 t2 it2 scope pos) 1 it acc env) R s)
    (h : wpAny (model c.prog c.w) A (pyIter it) (fun it' s' => codeAny (model c.prog c.w) A (.compLoop (LC2 elt t1 it1 t2 it2 scope pos) 1 it' acc env) R s') (fun _ _ => False) s) :
    codeAny (model c.prog c.w) A (.compStart (LC2 elt t1 it1 t2 it2 scope pos) 1 it acc env) R s := by
  refine codeAny_of_tree ?_
  show wpAny _ A ((compStart (LC2 elt t1 it1 t2 it2 scope pos) 1 it acc env).onRaise (fun x => do noteFrame x env; standAt theWindowsPlace)) _ _ s
  refine wpAny_notedAt (wpAny_mono (E := fun _ _ => False) ?_ (fun _ _ x => x) fun _ _ x => x.elim)
  rw [compStart2_eq]
  refine wpAny_bind (wpAny_askSetting ?_)
  split
  · exact wpAny_pure ⟨rfl, h0⟩
  · exact wpAny_bind (wpAny_rule (wpAny_bind (wpAny_standAt (wpAny_bind (wpAny_mono h (fun it' s' h' => wpAny_pure ⟨rfl, h'⟩) fun _ _ x => x)))))
theorem compLoop2_0 (I : Nat → Shared → Prop) (hfs : ∀ x, foldedSetIterable it2 env x = pure x)
    (turn : ∀ k s, I k s → wpAny (model c.prog c.w) A (pyNext it) (fun r s₁ => match r with
      | none => R (.ok .next) s₁
      | some v => wpAny (model c.prog c.w) A (letOwnedTupleGo t1 it v) (fun _ s₁' => wpAny (model c.prog c.w) A (assign t1 env v) (fun _ s₂ =>
          wpAny (model c.prog c.w) A (eval it2 env) (fun x s₄ => wpAny (model c.prog c.w) A (pyIter x) (fun it' s₅ =>
              codeAny (model c.prog c.w) A (.compStart (LC2 elt t1 it1 t2 it2 scope pos) 1 it' acc env) (fun r s₆ => ∃ f, r = .ok f ∧ ∃ j, j < k ∧ I j s₆) s₅) (fun _ _ => False) s₄) (fun _ _ => False) s₂) (fun _ _ => False) s₁') (fun _ _ => False) s₁) (fun _ _ => False) s)
    (k : Nat) (h : I k s) :
    codeAny (model c.prog c.w) A (.compLoop (LC2 elt t1 it1 t2 it2 scope pos) 0 it acc env) R s := by
  refine codeAny_loop rfl I (fun k s hI => ?_) k h
  show wpAny _ A ((compTurn (LC2 elt t1 it1 t2 it2 scope pos) 0 it acc env).onRaise (fun x => do noteFrame x env; theTreesLotGoes x)) _ _ s
  refine wpAny_noted (wpAny_mono (E := fun _ _ => False) ?_ (fun _ _ x => x) fun _ _ x => x.elim)
  rw [compTurn2_0]
  refine wpAny_bind (wpAny_standAt (wpAny_bind (wpAny_mono (turn k s hI) (fun r s₁ h₁ => ?_) fun _ _ h' => h')))
  cases r with
  | none => exact wpAny_pure h₁
  | some v =>
    refine wpAny_bind (wpAny_mono h₁ (fun _ s₁' h₁' => ?_) fun _ _ h' => h')
    refine wpAny_bind (wpAny_mono h₁' (fun _ s₂ h₂ => ?_) fun _ _ h' => h')
    refine wpAny_bind (wpAny_mono h₂ (fun x s₄ h₄ => ?_) fun _ _ h' => h')
    refine wpAny_bind (wpAny_standAt (wpAny_bind (wpAny_of_eq (hfs x) ?_)))
    refine wpAny_bind (wpAny_holding (wpAny_mono h₄ (fun it' s₅ h₅ => ?_) fun _ _ h' => h'))
    refine wpAny_bind (wpAny_runOwn (codeAny_mono h₅ fun r s₆ => ex3 fun f e h₆ => ?_))
    subst e
    exact wpAny_pure ⟨rfl, h₆⟩
end
end
section
variable {c : Cx} {n : Nat} {sc : Scope} {σ σ' σ0 σ6 Z Z2 : Hp} {m m' mC m5 : Lm} {F F2 F' : Fx} {env : Env} {ow : List (Str × Addr)} {s s2 s' : Shared} {wr : List Addr}
variable {t1 it1 t2 it2 elt : Expr} {scope : Scope} {pos : Pos} {A : Around} {R : Result → Shared → Prop}
theorem comp_inner {D I2 : Addr} {ys : List IV} {fp2 wr2 : List Addr} {P2 Md2 : Nat → Value → Heap → Prop} {Sti2 : Nat → Heap → Prop} {its0 : Array Value} {nn0 : Nat} {acc0 : List AV}
    (hag : ∀ (F' : Fx) (σ' : Hp) (m' : Lm) (s' : Shared), (∀ a o, F2 a = some o → F' a = some o) → St c F' σ' env ow m' s' → St c F' σ' env ow mC s')
    (W : KT c A t2 I2 fp2 wr2 ys.length P2 Md2 Sti2) (hst : Sti2 0 s.heap) (hs : St c F2 (Z2 ++ σ6) env ow m5 s) (hoff : ∀ b ∈ wr2, Off F2 (Z2 ++ σ6) env ow b) (hfp : ∀ b ∈ fp2, b ∈ wr2 ∨ b ∈ Z2.map (·.1)) (hP : ∀ i v h, P2 i v h → ∃ iv, ys[i]? = some iv ∧ iv.rel c v h)
    (hDo : Off F2 (Z2 ++ σ6) env ow D) (hDw : D ∉ wr2) (hD : s.heap.get? D = some (listOf its0 nn0)) (hr : VsRel c acc0 its0.toList)
    (J : Nat → Hp → List AV → Prop) (hJ0 : J 0 σ6 acc0) (hlen : ∀ j σ acc, J j σ acc → acc.length ≤ 90000)
    (turn : ∀ j jv σ acc, ys[j]? = some jv → J j σ acc → TV c n sc σ mC t2 jv fun σ' m' => TE c n sc σ' m' elt fun v σ3 => J (j + 1) σ3 (acc ++ [v]))
    (ha : AOk n A) (he : EnvOk sc env ow)
    (hR : ∀ σ acc its nn s', J ys.length σ acc → St c F2 (Z2 ++ σ) env ow mC s' → Off F2 (Z2 ++ σ) env ow D → s'.heap.get? D = some (listOf its nn) → VsRel c acc its.toList → R (.ok .next) s') :
    codeAny (model c.prog c.w) A (.compStart (LC2 elt t1 it1 t2 it2 scope pos) 1 (.ref I2) (.ref D) env) R s := by
  have hDZ : D ∉ Z2.map (·.1) := fun q => hDo.2.1 (by rw [List.map_append]; exact List.mem_append_left _ q)
  have hwZ : ∀ b ∈ wr2, b ∉ Z2.map (·.1) := fun b hb q => (hoff b hb).2.1 (by rw [List.map_append]; exact List.mem_append_left _ q)
  have sub3 : ∀ a o, F2 a = some o → fz F2 Z2 s.heap a = some o := fun a o e => by
    unfold fz
    rw [if_neg fun q => by
      have := hs.r.keyFree (a := a) (by rw [List.map_append]; exact List.mem_append_left _ q)
      rw [this] at e; cases e]
    exact e
  have hF3 := hag _ _ _ _ sub3 hs.freeze
  have off3 : ∀ b, Off F2 (Z2 ++ σ6) env ow b → Off (fz F2 Z2 s.heap) σ6 env ow b := fun b h => by
    have hz : b ∉ Z2.map (·.1) := fun q => h.2.1 (by rw [List.map_append]; exact List.mem_append_left _ q)
    exact ⟨by unfold fz; rw [if_neg hz]; exact h.1, fun q => h.2.1 (by rw [List.map_append]; exact List.mem_append_right _ q), h.2.2⟩
  have hZF : ∀ b, b ∈ Z2.map (·.1) → ∃ o, fz F2 Z2 s.heap b = some o := fun b q => by
    obtain ⟨o, e⟩ := hs.r.keyLive (a := b) (by rw [List.map_append]; exact List.mem_append_left _ q)
    exact ⟨o, by unfold fz; rw [if_pos q]; exact e⟩
  have loop : codeAny (model c.prog c.w) A (.compLoop (LC2 elt t1 it1 t2 it2 scope pos) 1 (.ref I2) (.ref D) env) R s := by
    refine compLoop2_1 (CInv c J ys.length Sti2 (fz F2 Z2 s.heap) env ow mC wr2 D) ?_ (ys.length + 1)
      ⟨0, σ6, acc0, its0, nn0, hJ0, Nat.zero_le _, rfl, hst, hF3, fun b hb => off3 b (hoff b hb), hD, hr, off3 D hDo⟩
    rintro k s' ⟨i, σ, acc, its, nn, hJ, hi, rfl, hst', hs', hoff', hD', hr', hDo'⟩
    by_cases hlt : i < ys.length
    · refine W.k.item i _ _ _ hlt hst' fun v h1 tk1 hMd hk1 => ?_
      refine W.k.go i v _ _ _ hMd fun h2 hPv hst2 hk2 => ?_
      have hkk : ∀ b o, b ∉ wr2 → s'.heap.get? b = some o → h2.get? b = some o := fun b o hb e => hk2 b o hb (hk1 b o hb e)
      have hs3 : St c (fz F2 Z2 s.heap) σ env ow mC { s' with heap := h2, toks := tk1 } := hs'.keepsOff hoff' hkk
      have hD3 : h2.get? D = some (listOf its nn) := hkk D _ hDw hD'
      obtain ⟨iv, hiv, hrel⟩ := hP i v h2 hPv
      have hoffD : ∀ b ∈ D :: wr2, Off (fz F2 Z2 s.heap) σ env ow b := fun b hb => (List.mem_cons.mp hb).elim (fun e => e ▸ hDo') (hoff' b)
      have hlive : ∀ b ∈ D :: wr2, ∃ o, h2.get? b = some o ∧ ∀ v, o.data ≠ .cell v := fun b hb => (List.mem_cons.mp hb).elim (fun e => ⟨_, e ▸ hD3, fun v q => (by cases q)⟩) (W.live _ _ hst2 b)
      have hs4 := hs3.protect hoffD
      refine wpAny_mono (tv_run (turn i iv σ acc hiv hJ) ha he hs4 hrel) (fun _ s5 => ex4 fun σ5 m5' h5 hs5 => ?_) fun _ _ x => x
      refine wpAny_mono (h5 A _ _ _ s5 ha he hs5) (fun y s7 => PE.go fun ay σ7 r7 h7 hs7 => ?_) fun _ _ x => x
      obtain ⟨g1, goff⟩ := hs3.unprotect hoffD hlive hs7
      have prF : ∀ b ∈ D :: wr2, ∀ o, h2.get? b = some o → s7.heap.get? b = some o := fun b hb o e => hs7.r.fix b o (by unfold pr; rw [if_pos hb]; exact e)
      have g4 : Sti2 (i + 1) s7.heap := W.k.frame _ _ _ hst2 fun b hb o e => by
        rcases hfp b hb with q | q
        · exact prF b (.tail _ q) o e
        · obtain ⟨o', e'⟩ := hZF b q
          have e2 : h2.get? b = some o' := hs3.r.fix b o' e'
          rw [e] at e2; cases e2
          exact g1.r.fix b o e'
      have g5 := prF D (.head _) _ hD3
      have g3 := goff D (.head _)
      have hysz : its.size = acc.length := by rw [hr'.length]; simp
      have hb := hlen _ _ _ hJ
      refine wpAny_list_append_plain (hsz := by rw [hysz, sizeLine_eq]; lia) ⟨nn, g5⟩ fun h8 hl8 hs8 => ?_
      obtain ⟨n8, hl8⟩ := hl8
      have g1' := hag _ _ _ _ sub3 g1
      refine ⟨ys.length + 1 - (i + 1), by lia, i + 1, σ7, acc ++ [ay], its.push y, n8, h7, hlt, rfl, W.k.frame _ _ _ g4 fun b hb o e => ?_, g1'.keepsOff (wr := [D]) (fun b hb => by rw [List.mem_singleton.mp hb]; exact g3) (fun b o hb e => hs8.extBut b o (fun q => hb (by simp [q])) e), fun b hb => goff b (.tail _ hb), hl8, by simpa using hr'.snoc r7, g3⟩
      refine hs8.extBut b o (fun q => ?_) e
      subst q
      rcases hfp b hb with q | q
      · exact hDw q
      · exact hDZ q
    · have hin' : i = ys.length := by lia
      subst hin'
      refine W.k.done _ _ _ hst' fun h1 tk1 hk1 => ?_
      have hs1 : St c (fz F2 Z2 s.heap) σ env ow mC { s' with heap := h1, toks := tk1 } := hs'.keepsOff hoff' hk1
      have ho1 := hs.thaw hs1
      have hD1 : h1.get? D = some (listOf its nn) := hk1 D _ hDw hD'
      refine hR σ acc its nn _ hJ ho1 ⟨hDo.1, fun q => ?_, hDo.2.2⟩ hD1 hr'
      rw [List.map_append] at q
      rcases List.mem_append.mp q with q | q
      · exact hDZ q
      · exact hDo'.2.1 q
  exact compStart2_1 loop (W.self 0 _ _ _ hst loop)
end
section
variable {c : Cx} {n : Nat} {sc : Scope} {σ σ' σ0 Z : Hp} {m m' : Lm} {F : Fx} {env : Env} {ow : List (Str × Addr)} {s s2 s' : Shared} {wr : List Addr}
noncomputable def CompT2 (c : Cx) (n : Nat) (scope : Scope) (m : Lm) (elt t1 t2 it2 : Expr) (xs : List IV) (Z σ0 : Hp) (R : List AV → Hp → Prop) : Prop :=
  ∃ J : Nat → Hp → List AV → Prop, J 0 σ0 [] ∧
    (∀ i iv σ acc, xs[i]? = some iv → J i σ acc → TV c n scope σ (compM scope m) t1 iv fun σ' m' => TIt c n scope σ' m' it2 t2 fun ys Z2 σ2 =>
      ∃ J2 : Nat → Hp → List AV → Prop, J2 0 σ2 acc ∧ (∀ j σ acc, J2 j σ acc → acc.length ≤ 90000) ∧
        (∀ j jv σ acc, ys[j]? = some jv → J2 j σ acc → TV c n scope σ (compM scope m) t2 jv fun σ' m' => TE c n scope σ' m' elt fun v σ3 => J2 (j + 1) σ3 (acc ++ [v])) ∧
        ∀ σ acc, J2 ys.length σ acc → J (i + 1) (Z2 ++ σ) acc) ∧
    ∀ σ acc, J xs.length σ acc → R acc (Z ++ σ)
theorem comp_core2 {elt t1 it1 t2 it2 : Expr} {scope : Scope} {pos pos' : Pos} {use : Option (Value → Sem Unit)} {Qp : Value → Shared → Prop} {R : List AV → Hp → Prop} (hc : CompS sc scope)
    (h : TIt c n sc σ m it1 t1 fun xs Z σ0 => CompT2 c n scope m elt t1 t2 it2 xs Z σ0 R)
    {A : Around} (ha : AOk n A) (he : EnvOk sc env ow) (hs : St c F σ env ow m s) (hfs : ∀ x, foldedSetIterable it1 env x = pure x) (hfs2 : ∀ (env : Env) x, foldedSetIterable it2 env x = pure x)
    (hfin : ∀ D C acc σe s', R acc σe → St c F ((D, .list acc) :: σe) env ow m s' → Off F ((D, .list acc) :: σe) env ow C → (∃ mC, s'.heap.Ns C mC) → compPost (model c.prog c.w) A (fun _ _ => False) use Qp (.ref D) C (.ok .next) s') :
    wpAny (model c.prog c.w) A (comprehension (LC2 elt t1 it1 t2 it2 scope pos) scope env pos' (newList []) false (eval it1 env) use) Qp (fun _ _ => False) s := by
  refine wpAny_comprehension_free rfl hfs (closureFor_eq (comp_cells hc he)) hc.kind hc.loc (wpAny_mono (h A F env ow s ha he hs) (fun xv s1 h1 => wpAny_mono h1 (fun it s2 h2 => ?_) fun _ _ x => x.elim) fun _ _ x => x.elim)
  obtain ⟨xs, Z, σ0, ⟨J, hJ0, turn, hend⟩, I, fp, wr, P, Md, Sti, rfl, W, hst, hs2, hoff, hfp, hP⟩ := h2
  refine wpAny_newObj_type (wpAny_newFunctionEnv hc.nocell (fun _ hx => by cases hx) (fun h4 hns4 hsb4 => ?_) hc.kind)
  dsimp only at hns4 hsb4 ⊢
  generalize hD : s2.heap.objs.size = D at *
  have hsz3 : (s2.heap.push { cls := .type "list", data := .seq ([] : List Value).toArray }).objs.size = D + 1 := by rw [Heap.size_push, hD]
  rw [hsz3] at hns4 hsb4 ⊢
  have ltD : ∀ b o, s2.heap.get? b = some o → @LT.lt Nat _ b D := fun b o e => hD ▸ Heap.lt_size e
  have k3 : ∀ b o, s2.heap.get? b = some o → (s2.heap.push { cls := .type "list", data := .seq ([] : List Value).toArray }).get? b = some o := fun b o e => Heap.get?_push_of_some _ e
  have k4 : ∀ b o, b ≠ D + 1 → (s2.heap.push { cls := .type "list", data := .seq ([] : List Value).toArray }).get? b = some o → h4.get? b = some o := fun b o hb e => hsb4.extBut b o hb (Heap.get?_push_of_some _ e)
  have hk : ∀ b o, s2.heap.get? b = some o → h4.get? b = some o := fun b o e => k4 b o (Nat.ne_of_lt (Nat.lt_succ_of_lt (ltD b o e))) (k3 b o e)
  have hDobj : h4.get? D = some (listOf #[] 0) := k4 D _ (Nat.ne_of_lt (Nat.lt_succ_self D)) (by rw [← hD]; exact Heap.get?_push_size _ rfl)
  have hDn : s2.heap.get? D = none := Heap.get?_none_of_le (Nat.le_of_eq hD)
  have hCn : s2.heap.get? (D + 1) = none := Heap.get?_none_of_le (by rw [hD]; exact Nat.le_succ D)
  show codeAny _ A (.compStart _ 0 (.ref I) (.ref D) (compE scope (D + 1) env)) _ { s2 with heap := h4, toks := s2.toks + 0 }
  have hin := hs2.inner hc he hoff (C := D + 1) (tk := s2.toks + 0) hk (by rw [hD]; exact Nat.le_succ D) hns4
  have hwl : ∀ b ∈ wr, @LT.lt Nat _ b D := fun b hb => by
    obtain ⟨o, e, _⟩ := W.live _ _ hst b hb
    exact ltD b o e
  obtain ⟨hDoff, hwoff, hZF⟩ := comp_facts (scope := scope) hs2 hDn hoff hwl
  have hst4 : Sti 0 h4 := W.k.frame _ _ _ hst fun b _ o e => hk b o e
  have loop : codeAny (model c.prog c.w) A (.compLoop (LC2 elt t1 it1 t2 it2 scope pos) 0 (.ref I) (.ref D) (compE scope (D + 1) env)) (compPost (model c.prog c.w) A (fun _ _ => False) use Qp (.ref D) (D + 1)) { s2 with heap := h4, toks := s2.toks + 0 } := by
    refine compLoop2_0 (CInv c J xs.length Sti (Fi wr σ0 s2.heap) (compE scope (D + 1) env) [] (compM scope m) wr D) (hfs2 _) ?_ (xs.length + 1)
      ⟨0, σ0, [], #[], 0, hJ0, Nat.zero_le _, rfl, hst4, hin, hwoff, hDobj, trivial, hDoff⟩
    rintro k s' ⟨i, σ, acc, ys, nn, hJ, hi, rfl, hst', hs', hoff', hD', hr', hDo'⟩
    have hDw : D ∉ wr := fun q => Nat.lt_irrefl _ (hwl D q)
    by_cases hlt : i < xs.length
    · refine W.k.item i _ _ _ hlt hst' fun v h1 tk1 hMd hk1 => ?_
      refine W.k.go i v _ _ _ hMd fun h2 hPv hst2 hk2 => ?_
      have hkk : ∀ b o, b ∉ wr → s'.heap.get? b = some o → h2.get? b = some o := fun b o hb e => hk2 b o hb (hk1 b o hb e)
      have hs3 : St c (Fi wr σ0 s2.heap) σ (compE scope (D + 1) env) [] (compM scope m) { s' with heap := h2, toks := tk1 } := hs'.keepsOff hoff' hkk
      have hD3 : h2.get? D = some (listOf ys nn) := hkk D _ hDw hD'
      obtain ⟨iv, hiv, hrel⟩ := hP i v h2 hPv
      have hsA := hs3.protect hoff'
      have hDoA : ∀ b ∈ [D], Off (pr (Fi wr σ0 s2.heap) wr h2) σ (compE scope (D + 1) env) [] b := fun b hb => by
        rw [List.mem_singleton.mp hb]
        exact ⟨by unfold pr; rw [if_neg hDw]; exact hDo'.1, hDo'.2⟩
      have hlA : ∀ b ∈ [D], ∃ o, h2.get? b = some o ∧ ∀ v, o.data ≠ .cell v := fun b hb => by
        rw [List.mem_singleton.mp hb]
        exact ⟨_, hD3, fun v q => (by cases q)⟩
      have hsB := hsA.protect hDoA
      have sub2 : ∀ a o, Fi wr σ0 s2.heap a = some o → pr (Fi wr σ0 s2.heap) wr h2 a = some o := fun a o e => by
        unfold pr; rw [if_neg (Fi_get e).1]; exact e
      refine wpAny_mono (tv_run (turn i iv σ acc hiv hJ) ha (comp_env hc he) hsB hrel) (fun _ s5 => ex4 fun σ5 m5 h5 hs5 => ?_) fun _ _ x => x
      refine wpAny_mono (h5 A _ _ _ s5 ha (comp_env hc he) hs5) (fun xv s6 h6 => wpAny_mono h6 (fun it s7 h7 => ?_) fun _ _ x => x.elim) fun _ _ x => x.elim
      obtain ⟨ys2, Z2, σ6, ⟨J2, hJ20, hlen2, turn2, hend2⟩, I2, fp2, wr2, P2, Md2, Sti2, rfl, W2, hst7, hs7, hoff7, hfp7, hP7⟩ := h7
      obtain ⟨hs8, hoff8⟩ := hsA.unprotect hDoA hlA hs7
      have hB1 : ∀ b, b ≠ D → pr (pr (Fi wr σ0 s2.heap) wr h2) [D] h2 b = pr (Fi wr σ0 s2.heap) wr h2 b := fun b hb => by
        show (if b ∈ [D] then h2.get? b else _) = _
        rw [if_neg (by simpa using hb)]
      have hBD : pr (pr (Fi wr σ0 s2.heap) wr h2) [D] h2 D = some (listOf ys nn) := by
        show (if D ∈ [D] then h2.get? D else _) = _
        rw [if_pos (by simp)]; exact hD3
      have hne2 : ∀ b ∈ wr2, b ≠ D := fun b hb e => by
        have := (hoff7 b hb).1
        rw [e, hBD] at this; cases this
      have hD7 : s7.heap.get? D = some (listOf ys nn) := hs7.r.fix _ _ hBD
      refine comp_inner (F2 := pr (Fi wr σ0 s2.heap) wr h2) (mC := compM scope m) (fun F' σ' m' s' hsub hst => ?_) W2 hst7 hs8 (fun b hb => ?_) hfp7 hP7 (hoff8 D (.head _)) (fun q => hne2 D q rfl) hD7 hr' J2 hJ20 hlen2 turn2 ha (comp_env hc he) fun σ9 acc9 its9 nn9 s9 hJ9 hs9 hoff9 hD9 hr9 => ?_
      · refine ⟨hst.r, ⟨?_, fun x v hx => ?_, hst.f.free, hst.f.off, hst.f.above, hst.f.owd, hst.f.ownd⟩⟩
        · obtain ⟨mm, g, _⟩ := hst.f.ns
          refine ⟨mm, g, fun x v hx k => ?_⟩
          obtain ⟨a, vv, o, e1, _⟩ := comp_cl hc he hs2 hoff (C := D + 1) x v hx
          rw [e1] at k; cases k
        · obtain ⟨a, vv, o, e1, e2, e3, e4, e5⟩ := comp_cl hc he hs2 hoff (C := D + 1) x v hx
          exact .inr ⟨a, vv, o, .inl e1, e2, hst.r.fix _ _ (hsub _ _ (sub2 _ _ e3)), e4, e5, .inl (hsub _ _ (sub2 _ _ e3))⟩
      · obtain ⟨g1, g2⟩ := hoff7 b hb
        exact ⟨by rw [← hB1 b (hne2 b hb)]; exact g1, g2⟩
      · obtain ⟨g1, goff⟩ := hs3.unprotect hoff' (W.live _ _ hst2) hs9
        refine ⟨_, rfl, xs.length + 1 - (i + 1), by lia, i + 1, Z2 ++ σ9, acc9, its9, nn9, hend2 _ _ hJ9, hlt, rfl, W.k.frame _ _ _ hst2 fun b hb o e => ?_, g1, goff, hD9, hr9, ⟨?_, hoff9.2⟩⟩
        · rcases hfp b hb with q | q
          · exact hs9.r.fix b o (by unfold pr; rw [if_pos q]; exact e)
          · obtain ⟨o', e'⟩ := hZF b q
            have e2 : h2.get? b = some o' := hs3.r.fix b o' e'
            rw [e] at e2; cases e2
            exact g1.r.fix b o e'
        · have := hoff9.1
          unfold pr at this; rw [if_neg hDw] at this; exact this
    · have hin' : i = xs.length := by lia
      subst hin'
      refine W.k.done _ _ _ hst' fun h1 tk1 hk1 => ?_
      have hs1 : St c (Fi wr σ0 s2.heap) σ (compE scope (D + 1) env) [] (compM scope m) { s' with heap := h1, toks := tk1 } := hs'.keepsOff hoff' hk1
      obtain ⟨q1, q2, q3⟩ := comp_done hs2 hDn hCn hoff hs1 hDo' (hk1 D _ hDw hD') hr'
      exact hfin D (D + 1) acc (Z ++ σ) _ (hend σ acc hJ) q1 q2 q3
  exact codeAny_compStart_list loop (wpAny_mono (E := fun _ _ => False) (W.self 0 _ _ _ hst4 loop) (fun _ _ x => x) fun _ _ x => x.elim)

theorem t_comp2 {elt t1 it1 t2 it2 : Expr} {scope : Scope} {pos : Pos} {Q : AV → Hp → Prop}
    (h : TIt c n sc σ m it1 t1 fun xs Z σ0 => CompT2 c n scope m elt t1 t2 it2 xs Z σ0 fun acc σe => ∀ D, Q (.ref D) ((D, .list acc) :: σe))
    (hc : compOk sc scope = true) (hfs : ∀ (env : Env) x, foldedSetIterable it1 env x = pure x := by intro _ _; rfl) (hfs2 : ∀ (env : Env) x, foldedSetIterable it2 env x = pure x := by intro _ _; rfl) :
    TE c n sc σ m (LC2 elt t1 it1 t2 it2 scope pos) Q :=
  fun A F env ow s ha he hs => by
    rw [eval_ListComp]
    refine comp_core2 (compOk_spec hc) h ha he hs (hfs env) hfs2 fun D C acc σe s' hR hs' hoff hns => ?_
    obtain ⟨mC, hns⟩ := hns
    refine ⟨mC, hns, fun h' hsb => ex_ref (hR D) ?_⟩
    exact hs'.keepsOff (wr := [C]) (tk := s'.toks) (fun b hb => by rw [List.mem_singleton.mp hb]; exact hoff) fun b o hb e => hsb.extBut b o (fun q => hb (by simp [q])) e
end
section
variable {c : Cx} {n : Nat} {sc : Scope} {σ σ' : Hp} {m m' : Lm}
theorem t_uptoB {value hi : Expr} {p pos : Pos} {Q : AV → Hp → Prop} (h : TE c n sc σ m value fun ov σ1 => TE c n sc σ1 m hi fun b σ3 =>
      ∃ l vs y items, ov = .raw (.ref l) ∧ b = .int y ∧ c.base.IsList l items ∧ VsRel c vs items.toList ∧ 0 ≤ y ∧ vs.length ≤ 100000 ∧ ∀ D, Q (.ref D) ((D, .list (vs.take y.toNat)) :: σ3)) :
    TE c n sc σ m (.Subscript value (.Slice none (some hi) none p) pos) Q :=
  fun A F env ow s ha he hs => by
    refine Subscript_ (wpAny_mono (h A F env ow s ha he hs) (fun ov s1 => PE.go fun aov σ1 r1 h1 hs1 => ?_) fun _ _ x => x.elim)
    refine wpAny_Slice (wpAny_pure (wpAny_mono (h1 A F env ow s1 ha he hs1) (fun vu s3 => PE.go fun au σ3 r3 hx1 hs3 => wpAny_pure ?_) fun _ _ x => x.elim))
    obtain ⟨l, vs, y, items, e1, e3, hb, hr, hy, hz, hq⟩ := hx1
    subst e1 e3
    have : ov = .ref l := r1
    subst this
    obtain ⟨ob, hob, hcl, nn, hdt⟩ := hb
    have hl : s3.heap.IsList l items := ⟨ob, hs3.r.fix _ _ (hs3.r.base _ _ hob), hcl, nn, hdt⟩
    have hsz : items.size ≤ sizeLine := by have := hr.length; rw [sizeLine_eq]; simp at this; lia
    have hs4 : St c F σ3 env ow m { s3 with heap := s3.heap.push { cls := .type "slice", data := .fields #[.none, vu, .none] } } := hs3.keeps fun _ _ e => Heap.get?_push_of_some _ e
    refine tail_any (T := "list") (hl.push _).typeIs slot_list_getitem.lookup (wpAny_getItem_list_slice (hl.push _) (Heap.IsSliceOf.new _ _ _ _) .none (part_int r3) .none (by intro h; cases h) ?_ hsz) rfl
    refine ex_ref (hq _) (hs4.push (ao := .list (vs.take y.toNat)) ⟨_, _, rfl, ?_⟩)
    rw [pick_upto hy]
    exact hr.take _
theorem TE.postnd {e : Expr} {Q : AV → Hp → Prop} (h : TE c n sc σ m e fun v σ1 => (σ1.map (·.1)).Nodup → Q v σ1) : TE c n sc σ m e Q :=
  fun A F env ow s ha he hs => wpAny_mono (h A F env ow s ha he hs) (fun v s1 => PE.go fun av σ1 r1 h1 hs1 => ⟨av, σ1, r1, h1 hs1.r.nd, hs1⟩) fun _ _ x => x
theorem a_cutN {o lo hi : Expr} {p pos : Pos} {a : AV} {Q : Hp → Lm → Prop} (h : TE c n sc σ m o fun ov σ1 => TE c n sc σ1 m lo fun av σ2 => TE c n sc σ2 m hi fun bv σ3 =>
      ∃ l vs x y r ws σ4, ov = .ref l ∧ av = .int x ∧ bv = .int y ∧ a = .ref r ∧ (r, AO.list ws) ∈ σ3 ∧ vs.length ≠ ws.length ∧ Mine.Upd σ3 l (.list vs) (.list (vs.take x.toNat ++ ws ++ vs.drop y.toNat)) σ4 ∧ 0 ≤ x ∧ x ≤ y ∧ y ≤ vs.length ∧ vs.length + ws.length ≤ 100000 ∧ Q σ4 m) :
    TA c n sc σ m (.Subscript o (.Slice (some lo) (some hi) none p) pos) a Q :=
  a_cut (h.mono fun ov σ1 h1 => h1.mono fun av σ2 h2 => TE.postnd (h2.mono fun bv σ3 hx1 hnd => by
    obtain ⟨l, vs, x, y, r, ws, σ4, e1, e2, e3, e4, e5, e6, e7, e8⟩ := hx1
    exact
    ⟨l, vs, x, y, r, ws, σ4, e1, e2, e3, e4, e5, mem_ne hnd e7.mem e5 (fun e => e6 (congrArg (fun o => match o with | AO.list l => l.length | _ => 0) e)), e7, e8⟩))
end
set_option maxRecDepth 100000
set_option maxHeartbeats 4000000
set_option compiler.extract_closed false
local macro_rules | `(tactic| boot_fact) => `(tactic| with_reducible first | assumption | exact mem_hd | (refine mem_tl ?_; boot_fact))
local macro_rules | `(tactic| top_raise0) => `(tactic| with_reducible first | exact Mine.Upd.head | assumption | (show Mine.Upd (_ :: _) _ _ _ _; exact Mine.Upd.tail (by top_raise0)))
local macro_rules | `(tactic| allgen_close_more) => `(tactic| with_reducible first | exact Pick.head | assumption | (show Pick (_ :: _) _ _ _; exact Pick.tail (by allgen_close_more)))
local macro_rules | `(tactic| k_caught0) => `(tactic| with_reducible first | exact Less.refl | assumption | (refine Less.both ?_; k_caught0) | (show Less (_ :: _) (_ :: _); refine Less.pick (by allgen_close_more) ?_; k_caught0) | (refine Less.drop ?_; k_caught0))
local macro_rules | `(tactic| allgen_close2_more) => `(tactic| first | exact Pick.head | assumption | (show Pick (_ :: _) _ _ _; exact Pick.tail (by allgen_close2_more)))
local macro_rules | `(tactic| kts_caught) => `(tactic| first | exact Less.refl | assumption | (refine Less.both ?_; kts_caught) | (show Less (_ :: _) (_ :: _); refine Less.pick (by allgen_close2_more) ?_; kts_caught) | (refine Less.drop ?_; kts_caught))
local macro_rules | `(tactic| top_caught0) => `(tactic| (intro p hp; boot_fact))
local macro_rules | `(tactic| tb_start) => `(tactic| with_unfolding_all exact rfl)
local macro_rules | `(tactic| top_args) => `(tactic| with_unfolding_all exact rfl)
local macro_rules | `(tactic| top_raise) => `(tactic| first | decide | exact nn_ref | exact n_ref | exact nn_int | exact n_int | (simp only [decide_eq_true_eq, decide_eq_false_iff_not, Bool.not_eq_true', Bool.not_eq_false', Bool.not_eq_true, Bool.not_eq_false, bne_iff_ne, ne_eq, beq_iff_eq, beq_eq_false_iff_ne, bne_eq_false_iff_eq] <;> lia))
local macro_rules | `(tactic| tb_rel) => `(tactic| with_reducible first
  | (show TE _ _ _ _ _ _ _; first
    | (show TE _ _ _ _ _ (.Name _ _) _; first | refine t_name (by tb_start) ?_ | refine t_gint (by tb_start) ?_)
    | refine t_int ?_ | refine t_bin ?_
    | (show TE _ _ _ _ _ (.Attribute _ _ _) _; refine t_attr ?_)
    | (show TE _ _ _ _ _ (.Call (.Name _ _) _ _ _) _; first | refine t_call ?_ | (show TE _ _ _ _ _ (.Call (.Name (Str.ofString "Entry") _) _ _ _) _; refine t_newE ?_) | (show TE _ _ _ _ _ (.Call (.Name (Str.ofString "Disk") _) _ _ _) _; refine t_newD ?_) | refine t_callb (by tb_start) (by first | exact .builtin | exact .type) ?_)
    | refine t_cut ?_ | (show TE _ _ _ _ _ (.Subscript _ _ _) _; refine t_idx ?_)
    | (show TE _ _ _ _ _ (.Compare _ _ _ _) _; refine t_cmp ?_) | refine t_ifexp ?_ | refine t_none ?_ | refine t_bool ?_ | (show TE _ _ _ _ _ (.Tuple _ _ _) _; refine t_tuple ?_) | (show TE _ _ _ _ _ (.List _ _) _; refine t_list ?_))
  | (show TS _ _ _ _ _ _ _ _; first | refine s_cons ?_ | refine s_nil ?_)
  | (show TX _ _ _ _ _ _ _ _; first | refine x_ret ?_ | refine x_if ?_ | (show TX _ _ _ _ _ (.Expr _ _) _ _; refine x_expr ?_) | (show TX _ _ _ _ _ (.Assign [_] _ _) _ _; refine x_assign ?_))
  | (show TEs _ _ _ _ _ _ _; first | refine es_cons ?_ | refine es_nil ?_)
  | (show TBin _ _ _ _ _ _ _; first | refine b_add ?_ | refine b_sub ?_ | refine b_and ?_ | refine b_or ?_ | (show TBin _ _ _ .Mod _ _ _; refine b_mod (by decide) ?_) | (show TBin _ _ _ .Mult (.int _) _ _; first | refine b_mul (by decide) ?_ | refine b_mul ⟨by lia, by lia⟩ ?_) | (show TBin _ _ _ .Mult (.ref _) _ _; refine b_mull (by boot_fact) ?_) | (show TBin _ _ _ .FloorDiv _ _ _; refine b_floordiv (by decide) ?_))
  | (show TCmp _ _ _ _ _ _ _; first | refine cm_eq ?_ | refine cm_ne ?_ | refine cm_lt ?_ | refine cm_le ?_ | refine cm_gt ?_ | refine cm_ge ?_ | (show TCmp _ _ _ .Is _ _ _; refine cm_is ?_) | (show TCmp _ _ _ .IsNot _ _ _; refine cm_isnot ?_))
  | (show TB _ _ _ _ _ _ _; first | (show TB _ _ _ _ _ (.Compare _ [_] _ _) _; refine tb_cmp ?_) | (show TB _ _ _ _ _ (.Compare _ _ _ _) _; refine tb_cmp2 ?_) | refine tb_not ?_ | refine tb_and ?_ | refine tb_or ?_ | refine tb_and3 ?_ | refine tb_or3 ?_ | refine tb_val ?_)
  | (show TA _ _ _ _ _ _ _ _; first | (show TA _ _ _ _ _ (.Name _ _) _ _; first | refine a_name ?_ | refine a_cell ?_) | (show TA _ _ _ _ _ (.Tuple _ _ _) (.ref _) _; first | refine a_tup (by boot_fact) ?_ | refine a_lst (by boot_fact) ?_) | (show TA _ _ _ _ _ (.Subscript _ (.Slice _ _ _ _) _) _ _; refine a_cutN ?_) | refine a_sub ?_ | refine a_attr ?_)
  | (show TAs _ _ _ _ _ _ _ _; first | refine as_cons ?_ | refine as_nil ?_)
  | (show TT _ _ _ _ _ _ _; first | refine tt_nil ?_ | refine tt_one ?_)
  | (show TV _ _ _ _ _ _ _ _; first | refine tv_val ?_ | refine tv_pair ?_ (by top_args) (by top_args))
  | (show TCB _ _ _ _ _ _; first | refine f_min ?_ | refine f_max ?_ | refine f_abs ?_ | refine f_int ?_)
  | (show TSetA _ _ _ _ _ _ _; first | refine set_attr (.inl rfl) (by boot_fact) (by top_raise0) ?_ | refine set_attr (.inr rfl) (by boot_fact) (by top_raise0) ?_)
  | refine tr_bool ?_
  | (show (_ = true → _) ∧ (_ = false → _); first | refine br_t (by top_raise) ?_ | refine br_f (by top_raise) ?_)
  | (show (_ = false → _) ∧ (_ = true → _); first | refine br_t' (by top_raise) ?_ | refine br_f' (by top_raise) ?_)
  | (show ∀ _ : Addr, _; intro _)
  | (show ∃ _ _ _ _ _, _ ∧ _ ∧ (_, AO.inst _ _) ∈ _ ∧ _; first
    | refine ⟨_, _, _, _, _, rfl, .inl rfl, by boot_fact, by boot_fact, by tb_start, by tb_start, ?_⟩
    | refine ⟨_, _, _, _, _, rfl, .inr rfl, by boot_fact, by boot_fact, by tb_start, by tb_start, ?_⟩))
set_option maxRecDepth 100000
set_option maxHeartbeats 4000000
section
variable {c : Cx} {n : Nat} {sc : Scope} {σ σ' Z : Hp} {m m' : Lm}
noncomputable def diskFs (g dt : Addr) : List (Str × AV) := [("blocks", .int 24), ("block", .int 8), ("record", .int 8), ("entries", .int 4), ("is_read_only", .bool false), ("given", .ref g), ("data", .ref dt)]
structure Dk (c : Cx) (σ : Hp) (d dx g dt : Addr) : Prop where
  inst : (d, .inst c.cD dx) ∈ σ
  attrs : (dx, .attrs (diskFs g dt)) ∈ σ
theorem Dk.up {d dx g dt : Addr} (h : Dk c σ d dx g dt) (hs : ∀ p ∈ σ, p ∈ σ') : Dk c σ' d dx g dt := ⟨hs _ h.1, hs _ h.2⟩
theorem cut_ints {xs : List Int} {a b : Int} {x y : Nat} (ha : a = x) (hb : b = y) : cut (aints xs) a b = aints ((xs.drop x).take (y - x)) := by
  subst ha hb; simp [cut, aints, List.map_take, List.map_drop]
theorem c_map_slots {d dx g dt : Addr} {Q : AV → Hp → Prop} (hd : Dk c σ d dx g dt) (h : Q (.int 16) σ) : TC c (n + 1) (.glob "map_slots") [.ref d] σ Q := by
  refine t_fn ["disk"] (f' := "map_slots") rfl (fun pm code doc vs hv => by obtain ⟨a, rfl⟩ := len1 hv; rfl) rfl rfl fun hn => ?_
  obtain ⟨h1, h2⟩ := hd
  repeat tb_rel
  exact rr (by k_caught0) h
theorem c_records_of_block {d dx g dt : Addr} {Q : AV → Hp → Prop} (hd : Dk c σ d dx g dt) (h : Q (.int 1) σ) : TC c (n + 1) (.glob "records_of_block") [.ref d] σ Q := by
  refine t_fn ["disk"] (f' := "records_of_block") rfl (fun pm code doc vs hv => by obtain ⟨a, rfl⟩ := len1 hv; rfl) rfl rfl fun hn => ?_
  obtain ⟨h1, h2⟩ := hd
  repeat tb_rel
  exact rr (by k_caught0) h
theorem c_need_writable {d dx g dt : Addr} {Q : AV → Hp → Prop} (hd : Dk c σ d dx g dt) (h : Q .none σ) : TC c (n + 1) (.glob "need_writable") [.ref d] σ Q := by
  refine t_fn ["disk"] (f' := "need_writable") rfl (fun pm code doc vs hv => by obtain ⟨a, rfl⟩ := len1 hv; rfl) rfl rfl fun hn => ?_
  obtain ⟨h1, h2⟩ := hd
  repeat tb_rel
  exact rn (by k_caught0) h
theorem c_directory_blocks {d dx g dt : Addr} {Q : AV → Hp → Prop} (hd : Dk c σ d dx g dt) (h : Q (.int 16) σ) : TC c (n + 1) (.glob "directory_blocks") [.ref d] σ Q := by
  refine t_fn ["disk"] (f' := "directory_blocks") rfl (fun pm code doc vs hv => by obtain ⟨a, rfl⟩ := len1 hv; rfl) rfl rfl fun hn => ?_
  obtain ⟨h1, h2⟩ := hd
  repeat tb_rel
  exact rr (by k_caught0) h
theorem c_raw_entry {d dx g dt : Addr} {xs : List Int} {k : Nat} {Q : AV → Hp → Prop} (hd : Dk c σ d dx g dt) (hx : (dt, .list (aints xs)) ∈ σ) (hl : xs.length = 192) (hk : k < 4)
    (h : ∀ D, Q (.ref D) ((D, .list (aints ((xs.drop (32 * k)).take 32))) :: σ)) : TC c (n + 1) (.glob "raw_entry") [.ref d, .int k] σ Q := by
  refine t_fn ["disk", "number"] (f' := "raw_entry") rfl (fun pm code doc vs hv => by obtain ⟨a, b, rfl⟩ := len2 hv; rfl) rfl rfl fun hn => ?_
  obtain ⟨h1, h2⟩ := hd
  repeat tb_rel
  refine ⟨_, _, _, _, rfl, rfl, rfl, by boot_fact, by lia, by lia, by simp [aints, hl], fun D => rr (by k_caught0) ?_⟩
  have := h D
  rwa [cut_ints (x := 32 * k) (y := 32 * k + 32) (by lia) (by lia), show 32 * k + 32 - 32 * k = 32 by lia]
theorem c_records_of_extent {d dx g dt : Addr} {Q : AV → Hp → Prop} (hd : Dk c σ d dx g dt) (h : Q (.int 16) σ) : TC c (n + 2) (.glob "records_of_extent") [.ref d] σ Q := by
  refine t_fn ["disk"] (f' := "records_of_extent") rfl (fun pm code doc vs hv => by obtain ⟨a, rfl⟩ := len1 hv; rfl) rfl rfl fun hn => ?_
  repeat tb_rel
  refine c_map_slots hd ?_
  repeat tb_rel
  refine c_records_of_block hd ?_
  repeat tb_rel
  exact rr (by k_caught0) h
theorem c_need_writable_disk {d dx g dt : Addr} {Q : AV → Hp → Prop} (hd : Dk c σ d dx g dt) (h : Q .none σ) : TC c (n + 1) (.glob "need_writable_disk") [.ref d] σ Q := by
  refine t_fn ["disk"] (f' := "need_writable_disk") rfl (fun pm code doc vs hv => by obtain ⟨a, rfl⟩ := len1 hv; rfl) rfl rfl fun hn => ?_
  obtain ⟨h1, h2⟩ := hd
  repeat tb_rel
  exact rn (by k_caught0) h
theorem c_map_of {d dx g dt o : Addr} {xs : List Int} {Q : AV → Hp → Prop} (hd : Dk c σ d dx g dt) (hx : (o, .list (aints xs)) ∈ σ) (hl : xs.length = 32)
    (h : ∀ D, Q (.ref D) ((D, .list (aints (xs.drop 16))) :: σ)) : TC c (n + 2) (.glob "map_of") [.ref d, .ref o] σ Q := by
  refine t_fn ["disk", "octets"] (f' := "map_of") rfl (fun pm code doc vs hv => by obtain ⟨a, b, rfl⟩ := len2 hv; rfl) rfl rfl fun hn => ?_
  repeat tb_rel
  refine c_map_slots hd ?_
  repeat tb_rel
  refine ⟨_, _, _, _, rfl, rfl, rfl, by boot_fact, by lia, by lia, by simp [aints, hl], fun D => rr (by k_caught0) ?_⟩
  have := h D
  rwa [show cut (aints xs) 16 32 = _ from cut_ints (x := 16) (y := 32) rfl rfl, List.take_of_length_le (by simp [hl])]
theorem c_map_octets {d dx g dt o : Addr} {xs : List AV} {Q : AV → Hp → Prop} (hd : Dk c σ d dx g dt) (hx : (o, .list xs) ∈ σ) (hl : xs.length ≤ 1000)
    (h : ∀ D, Q (.ref D) ((D, .list xs) :: σ)) : TC c (n + 2) (.glob "map_octets") [.ref d, .ref o] σ Q := by
  refine t_fn ["disk", "blocks"] (f' := "map_octets") rfl (fun pm code doc vs hv => by obtain ⟨a, b, rfl⟩ := len2 hv; rfl) rfl rfl fun hn => ?_
  repeat tb_rel
  refine c_map_slots hd ?_
  repeat tb_rel
  exact f_list (by boot_fact) (fun D => rr (by k_caught0) (h D)) (by lia)
end
set_option maxRecDepth 100000
set_option maxHeartbeats 4000000
section
variable {c : Cx} {n : Nat} {sc : Scope} {σ σ' Z : Hp} {m m' : Lm}

/-- an entry of the directory -/
structure En where
  user : Int
  raw : List Int
  ext : Int
  cnt : Int
  map : List Int
structure En.Ok (e : En) : Prop where
  raw : e.raw.length = 11
  map : e.map.length = 16
  user : e.user ≠ 229
  ext : 0 ≤ e.ext ∧ e.ext < 32
noncomputable def En.oct (e : En) : List Int := [e.user] ++ e.raw ++ [e.ext, 0, 0, e.cnt] ++ e.map
noncomputable def entFs (e : En) (r mp : Addr) : List (Str × AV) := [("user", .int e.user), ("raw", .ref r), ("extent", .int e.ext), ("spare", .int 0), ("count", .int e.cnt), ("map", .ref mp)]
noncomputable def entO (c : Cx) (e : En) (x dx r mp : Addr) : Hp := [(x, .inst c.cE dx), (dx, .attrs (entFs e r mp)), (r, .list (aints e.raw)), (mp, .list (aints e.map))]
structure EnAt (c : Cx) (σ : Hp) (e : En) (x dx r mp : Addr) : Prop where
  inst : (x, .inst c.cE dx) ∈ σ
  attrs : (dx, .attrs (entFs e r mp)) ∈ σ
  raw : (r, .list (aints e.raw)) ∈ σ
  map : (mp, .list (aints e.map)) ∈ σ
theorem EnAt.head {e : En} {x dx r mp : Addr} : EnAt c (entO c e x dx r mp ++ σ) e x dx r mp := ⟨.head _, .tail _ (.head _), .tail _ (.tail _ (.head _)), .tail _ (.tail _ (.tail _ (.head _)))⟩
theorem EnAt.up {e : En} {x dx r mp : Addr} (h : EnAt c σ e x dx r mp) (hs : ∀ p ∈ σ, p ∈ σ') : EnAt c σ' e x dx r mp := ⟨hs _ h.1, hs _ h.2, hs _ h.3, hs _ h.4⟩

theorem perm4 {α : Type} (a b d e : α) : [a, b, d, e].Perm [e, d, a, b] := by
  refine (List.perm_append_comm (l₁ := [a, b]) (l₂ := [d, e])).trans ?_
  exact .swap _ _ _
theorem c_Entry {user ext : Int} {raw : List Int} {r0 : Addr} {Q : AV → Hp → Prop} (hr : (r0, .list (aints raw)) ∈ σ) (hl : raw.length ≤ 1000)
    (h : ∀ x dx r mp, Q (.ref x) (entO c ⟨user, raw, ext, 0, []⟩ x dx r mp ++ σ)) : TCC c (n + 2) c.cE [.int user, .ref r0, .int ext] σ Q := by
  refine new_run (d := ⟨_, _, _, _⟩) (qual := "Entry.__init__") (ns := ["self", "user", "raw", "extent"]) (.inr rfl) (c.initE _ rfl) (fun pm code doc ct vs hv => by obtain ⟨a, b, d, e, rfl⟩ := len4 hv; rfl) rfl rfl fun x dx => ends ?_
  dsimp only
  repeat tb_rel
  refine f_list (by boot_fact) (fun D => ?_) (by simp [aints]; lia)
  repeat tb_rel
  rename_i D'
  refine rn (σ' := entO c ⟨user, raw, ext, 0, []⟩ x dx D D' ++ σ) ?_ ⟨rfl, h x dx D D'⟩
  exact Less.perm (List.Perm.append_right σ (l₁ := entO c ⟨user, raw, ext, 0, []⟩ x dx D D') (l₂ := [_, _, _, _]) (perm4 _ _ _ _))
theorem consE {α : Type} {P : List α → Prop} {l : List α} {n : Nat} (h : l.length = n + 1) (z : ∀ a t, t.length = n → P (a :: t)) : P l := by
  cases l with
  | nil => cases h
  | cons a t => exact z a t (Nat.succ.inj h)
theorem nilE {α : Type} {P : List α → Prop} {l : List α} (h : l.length = 0) (z : P []) : P l := by
  cases l with
  | nil => exact z
  | cons a t => cases h
theorem list11E {α : Type} {P : List α → Prop} {l : List α} (h : l.length = 11) (z : ∀ a b d e f g i j k p q, P [a, b, d, e, f, g, i, j, k, p, q]) : P l :=
  consE (P := P) h fun a _ h => consE (P := fun t => P (a :: t)) h fun b _ h => consE (P := fun t => P (a :: b :: t)) h fun d _ h => consE (P := fun t => P (a :: b :: d :: t)) h fun e _ h => consE (P := fun t => P (a :: b :: d :: e :: t)) h fun f _ h => consE (P := fun t => P (a :: b :: d :: e :: f :: t)) h fun g _ h => consE (P := fun t => P (a :: b :: d :: e :: f :: g :: t)) h fun i _ h => consE (P := fun t => P (a :: b :: d :: e :: f :: g :: i :: t)) h fun j _ h => consE (P := fun t => P (a :: b :: d :: e :: f :: g :: i :: j :: t)) h fun k _ h => consE (P := fun t => P (a :: b :: d :: e :: f :: g :: i :: j :: k :: t)) h fun p _ h => consE (P := fun t => P (a :: b :: d :: e :: f :: g :: i :: j :: k :: p :: t)) h fun q _ h => nilE (P := fun t => P (a :: b :: d :: e :: f :: g :: i :: j :: k :: p :: q :: t)) h (z a b d e f g i j k p q)
structure OctGet (e : En) : Prop where
  g0 : e.oct[(0 : Int).toNat]? = some e.user
  g12 : e.oct[(12 : Int).toNat]? = some e.ext
  g13 : e.oct[(13 : Int).toNat]? = some 0
  g14 : e.oct[(14 : Int).toNat]? = some 0
  g15 : e.oct[(15 : Int).toNat]? = some e.cnt
  raw : (e.oct.drop 1).take 11 = e.raw
  map : e.oct.drop 16 = e.map
  len : e.oct.length = 32
theorem En.Ok.get {e : En} (h : e.Ok) : OctGet e := by
  obtain ⟨u, raw, ext, cnt, mp⟩ := e
  have := h.map
  refine list11E (P := fun r => OctGet ⟨u, r, ext, cnt, mp⟩) h.raw fun a b d e f g i j k p q => ?_
  exact ⟨rfl, rfl, rfl, rfl, rfl, rfl, rfl, by simp only at this; simp [En.oct, this]⟩

theorem c_entry_from {d dx g dt o : Addr} {e : En} {Q : AV → Hp → Prop} (hd : Dk c σ d dx g dt) (hx : (o, .list (aints e.oct)) ∈ σ) (he : e.Ok)
    (h : ∀ x ex r mp, Q (.ref x) (entO c e x ex r mp ++ σ)) : TC c (n + 3) (.glob "entry_from") [.ref d, .ref o] σ Q := by
  refine t_fn ["disk", "octets"] (f' := "entry_from") rfl (fun pm code doc vs hv => by obtain ⟨a, b, rfl⟩ := len2 hv; rfl) rfl rfl fun hn => ?_
  have G := he.get
  have hu := he.user
  have hz := he.ext
  repeat tb_rel
  refine i_int hx G.g0 ?_
  repeat tb_rel
  refine i_int hx G.g0 ?_
  repeat tb_rel
  refine ⟨_, _, _, _, rfl, rfl, rfl, hx, by decide, by decide, by simp [aints, G.len], fun D => ?_⟩
  repeat tb_rel
  refine i_int (by boot_fact) G.g14 ?_
  repeat tb_rel
  refine i_int (by boot_fact) G.g12 ?_
  repeat tb_rel
  have hc1 : cut (aints e.oct) 1 (1 + 11) = aints e.raw := (cut_ints (x := 1) (y := 12) rfl rfl).trans (congrArg aints G.raw)
  have hc2 : (0 : Int) * 32 + e.ext.fmod 32 = e.ext := by rw [Int.fmod_eq_emod_of_nonneg _ (by decide)]; lia
  rw [hc1, hc2]
  refine c_Entry mem_hd (by rw [he.raw]; decide) fun x ex r mp => ?_
  unfold entO
  dsimp only [List.cons_append, List.nil_append]
  repeat tb_rel
  refine i_int (by boot_fact) G.g13 ?_
  repeat tb_rel
  refine i_int (by boot_fact) G.g15 ?_
  repeat tb_rel
  refine c_map_of (hd.up (by top_caught0)) (by boot_fact) G.len fun M => ?_
  repeat tb_rel
  refine rr (σ' := entO c e x ex r M ++ σ) ?_ (h _ _ _ _)
  unfold entO
  rw [G.map]
  dsimp only [List.cons_append, List.nil_append]
  show Less _ ((M, _) :: (x, _) :: (ex, .attrs (entFs e r M)) :: (r, _) :: _)
  k_caught0
end
set_option maxRecDepth 100000
set_option maxHeartbeats 4000000
section
variable {c : Cx} {n : Nat} {sc : Scope} {σ σ' Z : Hp} {m m' : Lm}
theorem c_entry_from_none {d dx g dt o : Addr} {xs : List Int} {Q : AV → Hp → Prop} (hd : Dk c σ d dx g dt) (hx : (o, .list (aints xs)) ∈ σ) (h0 : xs[(0 : Int).toNat]? = some 229) (h : Q .none σ) : TC c (n + 1) (.glob "entry_from") [.ref d, .ref o] σ Q := by
  refine t_fn ["disk", "octets"] (f' := "entry_from") rfl (fun pm code doc vs hv => by obtain ⟨a0, a1, rfl⟩ := len2 hv; rfl) rfl rfl fun hn => ?_
  repeat tb_rel
  refine i_int hx h0 ?_
  repeat tb_rel
  exact rr (by k_caught0) h
noncomputable def zeros (k : Nat) : List Int := List.replicate k 0
theorem c_new_entry {d dx g dt r0 : Addr} {user ext : Int} {raw : List Int} {Q : AV → Hp → Prop} (hd : Dk c σ d dx g dt) (hr : (r0, .list (aints raw)) ∈ σ) (hl : raw.length = 11)
    (h : ∀ x ex r mp, Q (.ref x) (entO c ⟨user, raw, ext, 0, zeros 16⟩ x ex r mp ++ σ)) : TC c (n + 3) (.glob "new_entry") [.ref d, .int user, .ref r0, .int ext] σ Q := by
  refine t_fn ["disk", "user", "raw", "extent"] (f' := "new_entry") rfl (fun pm code doc vs hv => by obtain ⟨a0, a1, a2, a3, rfl⟩ := len4 hv; rfl) rfl rfl fun hn => ?_
  repeat tb_rel
  refine c_Entry hr (by rw [hl]; decide) fun x ex r mp => ?_
  unfold entO
  dsimp only [List.cons_append, List.nil_append]
  repeat tb_rel
  refine c_map_slots (hd.up (by top_caught0)) ?_
  repeat tb_rel
  rename_i L M
  refine rr (σ' := entO c ⟨user, raw, ext, 0, zeros 16⟩ x ex r M ++ σ) ?_ (h _ _ _ _)
  unfold entO
  dsimp only [List.cons_append, List.nil_append]
  show Less _ ((M, .list (aints (zeros 16))) :: _ :: _ :: (ex, .attrs (entFs ⟨user, raw, ext, 0, zeros 16⟩ r M)) :: (r, _) :: _)
  k_caught0
theorem c_entry_octets {d dx g dt x ex r mp : Addr} {e : En} {Q : AV → Hp → Prop} (hd : Dk c σ d dx g dt) (hx : EnAt c σ e x ex r mp) (he : e.Ok)
    (h : ∀ D, Q (.ref D) ((D, .list (aints e.oct)) :: σ)) : TC c (n + 3) (.glob "entry_octets") [.ref d, .ref x] σ Q := by
  obtain ⟨x1, x2, x3, x4⟩ := hx
  have hz := he.ext
  refine t_fn ["disk", "entry"] (f' := "entry_octets") rfl (fun pm code doc vs hv => by obtain ⟨a0, a1, rfl⟩ := len2 hv; rfl) rfl rfl fun hn => ?_
  repeat tb_rel
  refine b_addl (by boot_fact) (by boot_fact) ?_ (by simp [aints, he.raw])
  repeat tb_rel
  refine b_addl (by boot_fact) (by boot_fact) ?_ (by simp [aints, he.raw])
  repeat tb_rel
  refine c_map_octets (hd.up (by top_caught0)) (by boot_fact) (by simp [aints, he.map]) fun M => ?_
  repeat tb_rel
  refine b_addl (by boot_fact) (by boot_fact) ?_ (by simp [aints, he.raw, he.map])
  repeat tb_rel
  rename_i D
  have e1 : [AV.int e.user] ++ aints e.raw ++ [AV.int (e.ext.fmod 32), AV.int 0, AV.int (e.ext.fdiv 32), AV.int e.cnt] ++ aints e.map = aints e.oct := by
    rw [Int.fmod_eq_emod_of_nonneg _ (by decide), Int.fdiv_eq_ediv_of_nonneg _ (by decide), show e.ext % 32 = e.ext by lia, show e.ext / 32 = 0 by lia]
    simp [aints, En.oct]
  rw [e1]
  exact rr (by k_caught0) (h _)
noncomputable def splice (xs : List Int) (i : Nat) (ys : List Int) : List Int := xs.take i ++ ys ++ xs.drop (i + ys.length)
theorem splice_nil {xs : List Int} {i : Nat} : splice xs i [] = xs := by simp [splice]
theorem splice_len {xs ys : List Int} {i : Nat} (h : i + ys.length ≤ xs.length) : (splice xs i ys).length = xs.length := by simp [splice]; lia
theorem splice_snoc {xs ys : List Int} {i j : Nat} {v : Int} (hj : ys[j]? = some v) (hl : i + ys.length ≤ xs.length) : (splice xs i (ys.take j)).set (i + j) v = splice xs i (ys.take (j + 1)) := by
  obtain ⟨hj1, hj2⟩ := List.getElem?_eq_some_iff.mp hj
  have h1 : (xs.take i).length = i := by simp; lia
  have h2 : (ys.take j).length = j := by simp; lia
  unfold splice
  have h3 : (ys.take (j + 1)).length = j + 1 := by simp; lia
  rw [h2, h3, List.take_add_one, hj, List.set_append, if_neg (by simp; lia)]
  have h4 : i + j - (xs.take i ++ ys.take j).length = 0 := by rw [List.length_append, h1, h2]; lia
  rw [h4]
  have h5 : xs.drop (i + j) = xs[i + j]'(by lia) :: xs.drop (i + (j + 1)) := by rw [List.drop_eq_getElem_cons (by lia)]; rfl
  rw [h5]
  simp
theorem c_put_entry {d dx g dt o : Addr} {xs oct : List Int} {k : Nat} {Q : AV → Hp → Prop} (hd : Dk c σ d dx g dt) (ho : (o, .list (aints oct)) ∈ σ) (hx : xs.length = 192) (hk : k < 4) (hl : oct.length = 32)
    (hu : Mine.Upd σ dt (.list (aints xs)) (.list (aints (splice xs (32 * k) oct))) σ') (h : Q .none σ') : TC c (n + 2) (.glob "put_entry") [.ref d, .int k, .ref o] σ Q := by
  refine TC.upd hu h fun σr hm hnd => ?_
  have h1 := hm _ hd.1 (by simp)
  have h2 := hm _ hd.2 (by simp)
  have h3 := hm _ ho (by simp only [ne_eq, AO.list.injEq]; intro e; have := congrArg List.length e; simp [aints, hl, hx] at this)
  clear hm
  refine t_fn ["disk", "number", "octets"] (f' := "put_entry") rfl (fun pm code doc vs hv => by obtain ⟨a0, a1, a2, rfl⟩ := len3 hv; rfl) rfl rfl fun hn => ?_
  repeat tb_rel
  refine c_need_writable ⟨mem_tl h1, mem_tl h2⟩ ?_
  repeat tb_rel
  refine c_raw_entry (xs := xs) ⟨mem_tl h1, mem_tl h2⟩ (by boot_fact) hx hk fun D => ?_
  repeat tb_rel
  obtain ⟨σ0, hp⟩ := Pick.exists h3
  have g1 := hp.rest h1 (by simp)
  have g2 := hp.rest h2 (by simp)
  refine x_for (TIt.enum (t_name rfl ⟨_, _, _, rfl, .tail (.tail hp), fun i τ => ∃ D, τ = (D, .list (aints ((xs.drop (32 * k)).take 32))) :: (dt, .list (aints (splice xs (32 * k) (oct.take i)))) :: σ0, wk0 ⟨D, by simp [splice_nil]⟩, ?_, ?_⟩) (by top_args) (by top_args))
  · rintro i iv σi hi ⟨D, rfl⟩
    obtain ⟨a, e1, rfl⟩ := enumL_get hi
    obtain ⟨v, e2, rfl⟩ := aints_get e1
    have hi' := (List.getElem?_eq_some_iff.mp e2).1
    repeat tb_rel
    refine set_list (xs := aints (splice xs (32 * k) (oct.take i))) (by top_raise0) (by lia) ?_ ?_ ?_
    · simp only [aints, List.length_map]; rw [splice_len (by simp; lia)]; lia
    · simp only [aints, List.length_map]; rw [splice_len (by simp; lia)]; lia
    repeat tb_rel
    refine en .refl ((Has.refl.put rfl).put rfl) ⟨D, ?_⟩
    rw [aints_set, show ((k : Int) * 32 + i).toNat = 32 * k + i by lia, splice_snoc e2 (by lia)]
  · rintro σi ⟨D, rfl⟩
    rw [enumL_len, show (aints oct).length = oct.length by simp [aints], List.take_length]
    refine wk (σ' := (dt, .list (aints (splice xs (32 * k) oct))) :: σr) ?_ ?_
    · refine Less.trans ((Less.perm hp.perm.symm).both) ?_
      dsimp only [List.cons_append, List.nil_append]
      k_caught0
    repeat tb_rel
    exact rn .refl ⟨rfl, rfl⟩
end
/-! the disk's octets -/
noncomputable def slotO : Option En → List Int
  | none => List.replicate 32 229
  | some e => e.oct
noncomputable def dat (ss : List (Option En)) (bs : List (List Int)) : List Int := (ss.map slotO).flatten ++ bs.flatten
structure Da (ss : List (Option En)) (bs : List (List Int)) : Prop where
  len : ss.length = 4
  ok : ∀ e, some e ∈ ss → e.Ok
  bl : bs.length = 8
  b8 : ∀ b ∈ bs, b.length = 8
theorem flat_len {L : List (List Int)} {k : Nat} (h : ∀ l ∈ L, l.length = k) : L.flatten.length = k * L.length := by
  induction L with
  | nil => simp
  | cons a L ih =>
    rw [List.flatten_cons, List.length_append, h a (.head _), ih fun l hl => h l (.tail _ hl), List.length_cons, Nat.mul_succ]; lia
theorem flat_cut {L : List (List Int)} {k i : Nat} {l rest : List Int} (h : ∀ l ∈ L, l.length = k) (hi : L[i]? = some l) : ((L.flatten ++ rest).drop (k * i)).take k = l := by
  induction L generalizing i with
  | nil => simp at hi
  | cons a L ih =>
    have ha := h a (.head _)
    cases i with
    | zero => simp at hi; subst hi; simp [← ha]
    | succ i =>
      simp at hi
      have : k * (i + 1) = a.length + k * i := by rw [ha, Nat.mul_succ]; lia
      rw [this, List.flatten_cons, List.append_assoc, List.drop_length_add_append]
      exact ih (fun l hl => h l (.tail _ hl)) hi
theorem flat_splice {L : List (List Int)} {k i : Nat} {y rest : List Int} (h : ∀ l ∈ L, l.length = k) (hi : i < L.length) (hy : y.length = k) : splice (L.flatten ++ rest) (k * i) y = (L.set i y).flatten ++ rest := by
  induction L generalizing i with
  | nil => simp at hi
  | cons a L ih =>
    have ha := h a (.head _)
    cases i with
    | zero => simp [splice, hy, ← ha]
    | succ i =>
      simp at hi
      have e : k * (i + 1) = a.length + k * i := by rw [ha, Nat.mul_succ]; lia
      have := ih (i := i) (fun l hl => h l (.tail _ hl)) hi
      rw [List.set_cons_succ, List.flatten_cons, List.append_assoc, List.flatten_cons, List.append_assoc, ← this]
      unfold splice
      rw [e, Nat.add_assoc, List.take_length_add_append, List.drop_length_add_append]
      simp
theorem pre_cut {a b : List Int} {i k : Nat} : ((a ++ b).drop (a.length + i)).take k = (b.drop i).take k := by
  rw [List.drop_length_add_append]
theorem pre_splice {a b y : List Int} {i : Nat} : splice (a ++ b) (a.length + i) y = a ++ splice b i y := by
  unfold splice
  rw [Nat.add_assoc, List.take_length_add_append, List.drop_length_add_append]
  simp
section
variable {ss : List (Option En)} {bs : List (List Int)}
theorem slot_len {o : Option En} (h : ∀ e, o = some e → e.Ok) : (slotO o).length = 32 := by
  cases o with
  | none => simp [slotO]
  | some e => exact (h e rfl).get.len
theorem Da.slots (h : Da ss bs) : ∀ l ∈ ss.map slotO, l.length = 32 := fun l hl => by
  obtain ⟨o, ho, rfl⟩ := List.mem_map.mp hl
  exact slot_len fun e he => h.ok e (he ▸ ho)
theorem Da.dlen (h : Da ss bs) : (dat ss bs).length = 192 := by
  unfold dat
  rw [List.length_append, flat_len h.slots, flat_len h.b8, List.length_map, h.len, h.bl]
theorem Da.slot (h : Da ss bs) {k : Nat} {o : Option En} (hk : ss[k]? = some o) : ((dat ss bs).drop (32 * k)).take 32 = slotO o :=
  flat_cut h.slots (by rw [List.getElem?_map, hk]; rfl)
theorem Da.block (h : Da ss bs) {k : Nat} {b : List Int} (hk : bs[k]? = some b) : ((dat ss bs).drop (128 + 8 * k)).take 8 = b := by
  have e : ((ss.map slotO).flatten).length = 128 := by rw [flat_len h.slots, List.length_map, h.len]
  unfold dat
  rw [show 128 + 8 * k = ((ss.map slotO).flatten).length + 8 * k by rw [e], pre_cut]
  have := flat_cut (rest := []) h.b8 hk
  rwa [List.append_nil] at this
theorem Da.setSlot (h : Da ss bs) {k : Nat} {e : En} (hk : k < 4) (he : e.Ok) : splice (dat ss bs) (32 * k) e.oct = dat (ss.set k (some e)) bs := by
  unfold dat
  rw [flat_splice h.slots (by rw [List.length_map, h.len]; exact hk) he.get.len, List.map_set]; rfl
theorem Da.setBlock (h : Da ss bs) {k : Nat} {b : List Int} (hk : k < 8) (hb : b.length = 8) : splice (dat ss bs) (128 + 8 * k) b = dat ss (bs.set k b) := by
  have e : ((ss.map slotO).flatten).length = 128 := by rw [flat_len h.slots, List.length_map, h.len]
  unfold dat
  rw [show 128 + 8 * k = ((ss.map slotO).flatten).length + 8 * k by rw [e], pre_splice]
  have := flat_splice (rest := []) h.b8 (by rw [h.bl]; exact hk) hb
  rw [List.append_nil, List.append_nil] at this
  rw [this]
theorem Da.put (h : Da ss bs) {k : Nat} {e : En} (he : e.Ok) : Da (ss.set k (some e)) bs :=
  ⟨by rw [List.length_set, h.len], fun e' he' => by rcases List.mem_or_eq_of_mem_set he' with q | q; exact h.ok _ q; cases q; exact he, h.bl, h.b8⟩
theorem Da.putB (h : Da ss bs) {k : Nat} {b : List Int} (hb : b.length = 8) : Da ss (bs.set k b) :=
  ⟨h.len, h.ok, by rw [List.length_set, h.bl], fun e' he' => by rcases List.mem_or_eq_of_mem_set he' with q | q; exact h.b8 _ q; subst q; exact hb⟩
theorem Da.get (h : Da ss bs) {k : Nat} (hk : k < 4) : ∃ o, ss[k]? = some o ∧ ∀ e, o = some e → e.Ok := by
  have : k < ss.length := by rw [h.len]; exact hk
  exact ⟨ss[k], List.getElem?_eq_getElem this, fun e he => h.ok e (he ▸ List.getElem_mem this)⟩
noncomputable def headO : Option En → Int
  | none => 229
  | some e => e.user
theorem slot_head {o : Option En} (h : ∀ e, o = some e → e.Ok) : (slotO o)[0]? = some (headO o) := by
  cases o with
  | none => rfl
  | some e => exact (h e rfl).get.g0
theorem Da.head (h : Da ss bs) {k : Nat} {o : Option En} (hk : ss[k]? = some o) : (dat ss bs)[32 * k]? = some (headO o) := by
  have h1 := h.slot hk
  have h2 := slot_head fun e he => h.ok e (he ▸ List.mem_of_getElem? hk)
  rw [← h1, List.getElem?_take_of_lt (by decide), List.getElem?_drop, Nat.add_zero] at h2
  exact h2
noncomputable def freeP (ss : List (Option En)) : Option Nat := ss.findIdx? Option.isNone
/-- the live entries among the first i -/
noncomputable def liveN (ss : List (Option En)) : Nat → List (Nat × En)
  | 0 => []
  | i + 1 => liveN ss i ++ (match ss[i]? with | some (some e) => [(i, e)] | _ => [])
noncomputable def liveP (ss : List (Option En)) : List (Nat × En) := liveN ss 4
theorem live_mem {i k : Nat} {e : En} (h : (k, e) ∈ liveN ss i) : ss[k]? = some (some e) ∧ k < i := by
  induction i with
  | zero => cases h
  | succ i ih =>
    unfold liveN at h
    rcases List.mem_append.mp h with h | h
    · exact ⟨(ih h).1, Nat.lt_succ_of_lt (ih h).2⟩
    · split at h
      · rename_i e' he'
        cases List.mem_singleton.mp h
        exact ⟨he', Nat.lt_succ_self _⟩
      · cases h
theorem liveN_len {i : Nat} : (liveN ss i).length ≤ i := by
  induction i with
  | zero => exact Nat.le_refl _
  | succ i ih =>
    unfold liveN
    rw [List.length_append]
    split <;> simp <;> lia
end
/-- entry objects -/
inductive Prs (c : Cx) : List (Nat × En) → List AV → Hp → Prop
  | nil : Prs c [] [] []
  | snoc {ps us τ k e t x dx r mp} : Prs c ps us τ → Prs c (ps ++ [(k, e)]) (us ++ [.ref t]) ((t, .tup [.int (k : Nat), .ref x]) :: (entO c e x dx r mp ++ τ))
theorem Prs.len {c : Cx} {ps : List (Nat × En)} {us : List AV} {τ : Hp} (h : Prs c ps us τ) : us.length = ps.length := by
  induction h with
  | nil => rfl
  | snoc _ ih => simp [ih]
theorem Prs.get {c : Cx} {ps : List (Nat × En)} {us : List AV} {τ : Hp} (h : Prs c ps us τ) : ∀ {i : Nat} {a : AV}, us[i]? = some a → ∃ k e t x dx r mp, ps[i]? = some (k, e) ∧ a = .ref t ∧ (t, AO.tup [.int (k : Nat), .ref x]) ∈ τ ∧ EnAt c τ e x dx r mp := by
  induction h with
  | nil => intro i a hi; simp at hi
  | @snoc ps us τ k e t x dx r mp h ih =>
    intro i a hi
    rw [List.getElem?_append] at hi ⊢
    rw [h.len] at hi
    split at hi
    · rename_i hlt
      rw [if_pos hlt]
      obtain ⟨k, e, t, x, dx, r, mp, h1, h2, h3, h4⟩ := ih hi
      exact ⟨k, e, t, x, dx, r, mp, h1, h2, .tail _ (List.mem_append_right _ h3), h4.up fun p hp => .tail _ (List.mem_append_right _ hp)⟩
    · rename_i hge
      rw [if_neg hge]
      have : i - ps.length = 0 := by
        rcases Nat.eq_zero_or_pos (i - ps.length) with q | q
        · exact q
        · rw [List.getElem?_eq_none (by simp; lia)] at hi; cases hi
      rw [this] at hi ⊢
      simp at hi
      subst hi
      exact ⟨k, e, t, x, dx, r, mp, by simp, rfl, .head _, EnAt.head.up fun p hp => .tail _ hp⟩
theorem foldl_take {α β : Type} {f : β → α → β} {l : List α} {a : β} {i : Nat} {x : α} (h : l[i]? = some x) : (l.take (i + 1)).foldl f a = f ((l.take i).foldl f a) x := by
  rw [List.take_add_one, h, List.foldl_append]; rfl
set_option maxRecDepth 100000
set_option maxHeartbeats 4000000
section
variable {c : Cx} {n : Nat} {sc : Scope} {σ σ' Z : Hp} {m m' : Lm} {ss : List (Option En)} {bs : List (List Int)}
theorem c_read_entry {d dx g dt : Addr} {k : Nat} {o : Option En} {Q : AV → Hp → Prop} (hd : Dk c σ d dx g dt) (hx : (dt, .list (aints (dat ss bs))) ∈ σ) (hs : Da ss bs) (hk : k < 4) (ho : ss[k]? = some o)
    (h0 : o = none → Q .none σ) (h : ∀ e, o = some e → ∀ x ex r mp, Q (.ref x) (entO c e x ex r mp ++ σ)) : TC c (n + 4) (.glob "read_entry") [.ref d, .int k] σ Q := by
  refine t_fn ["disk", "number"] (f' := "read_entry") rfl (fun pm code doc vs hv => by obtain ⟨a0, a1, rfl⟩ := len2 hv; rfl) rfl rfl fun hn => ?_
  repeat tb_rel
  refine c_raw_entry hd hx hs.dlen hk fun D => ?_
  rw [hs.slot ho]
  repeat tb_rel
  cases o with
  | none =>
    refine c_entry_from_none (xs := List.replicate 32 229) (hd.up (by top_caught0)) mem_hd rfl ?_
    exact rr (by k_caught0) (h0 rfl)
  | some e =>
    refine c_entry_from (hd.up (by top_caught0)) mem_hd (hs.ok e (List.mem_of_getElem? ho)) fun x ex r mp => ?_
    refine rr ?_ (h e rfl x ex r mp)
    exact Less.app (Less.refl.drop)
theorem c_write_entry {d dx g dt x ex r mp : Addr} {k : Nat} {e : En} {Q : AV → Hp → Prop} (hd : Dk c σ d dx g dt) (he : EnAt c σ e x ex r mp) (hs : Da ss bs) (hk : k < 4) (ho : e.Ok)
    (hu : Mine.Upd σ dt (.list (aints (dat ss bs))) (.list (aints (dat (ss.set k (some e)) bs))) σ') (h : Q .none σ') : TC c (n + 4) (.glob "write_entry") [.ref d, .int k, .ref x] σ Q := by
  refine t_fn ["disk", "number", "entry"] (f' := "write_entry") rfl (fun pm code doc vs hv => by obtain ⟨a0, a1, a2, rfl⟩ := len3 hv; rfl) rfl rfl fun hn => ?_
  repeat tb_rel
  refine c_entry_octets hd he ho fun D => ?_
  repeat tb_rel
  rw [← hs.setSlot hk ho] at hu
  refine c_put_entry (hd.up (by top_caught0)) mem_hd hs.dlen hk ho.get.len (.tail hu) ?_
  repeat tb_rel
  exact rn (by k_caught0) h
theorem c_free_entry {d dx g dt : Addr} {Q : AV → Hp → Prop} (hd : Dk c σ d dx g dt) (hx : (dt, .list (aints (dat ss bs))) ∈ σ) (hs : Da ss bs)
    (h0 : freeP ss = none → Q .none σ) (h : ∀ k, freeP ss = some k → k < 4 → Q (.int k) σ) : TC c (n + 1) (.glob "free_entry") [.ref d] σ Q := by
  obtain ⟨h1, h2⟩ := hd
  refine t_fn ["disk"] (f' := "free_entry") rfl (fun pm code doc vs hv => by obtain ⟨a0, rfl⟩ := len1 hv; rfl) rfl rfl fun hn => ?_
  repeat tb_rel
  refine x_for (TIt.range ?_ (by top_args) (by top_args))
  repeat tb_rel
  refine ⟨4, rfl, by decide, fun i τ => τ = σ ∧ ∀ j < i, ∃ e, ss[j]? = some (some e), wk0 ⟨rfl, fun j hj => absurd hj (Nat.not_lt_zero _)⟩, ?_, ?_⟩
  · rintro i iv σi hi ⟨rfl, hj⟩
    obtain ⟨hk, rfl⟩ := upto_get hi
    obtain ⟨o, ho, hok⟩ := hs.get hk
    repeat tb_rel
    refine i_int hx (k := (i : Int) * 32) (v := headO o) (by rw [show ((i : Int) * 32).toNat = 32 * i by lia]; exact hs.head ho) ?_ (by lia) (by lia)
    repeat tb_rel
    cases o with
    | none =>
      refine br_t (by rfl) ?_
      repeat tb_rel
      refine ⟨_, .refl, rr .refl (h i ?_ hk)⟩
      unfold freeP
      rw [List.findIdx?_eq_some_iff_getElem]
      obtain ⟨hl, e1⟩ := List.getElem?_eq_some_iff.mp ho
      refine ⟨hl, by rw [e1]; rfl, fun j hj' => ?_⟩
      obtain ⟨e, e2⟩ := hj j hj'
      rw [(List.getElem?_eq_some_iff.mp e2).2]; simp
    | some e =>
      refine br_f (by have := (hok e rfl).user; simpa [headO] using this) ?_
      repeat tb_rel
      refine en .refl (Has.refl.put rfl) ⟨rfl, fun j hj' => ?_⟩
      rcases Nat.lt_succ_iff_lt_or_eq.mp hj' with q | q
      · exact hj j q
      · exact ⟨e, q ▸ ho⟩
  · rintro σi ⟨rfl, hj⟩
    rw [upto_len] at hj
    refine wk .refl ?_
    repeat tb_rel
    refine rr .refl (h0 ?_)
    unfold freeP
    rw [List.findIdx?_eq_none_iff]
    intro o ho
    obtain ⟨j, hl, rfl⟩ := List.mem_iff_getElem.mp ho
    obtain ⟨e, e2⟩ := hj j (by rw [← hs.len]; exact hl)
    rw [(List.getElem?_eq_some_iff.mp e2).2]; rfl
theorem c_live_entries {d dx g dt : Addr} {Q : AV → Hp → Prop} (hd : Dk c σ d dx g dt) (hx : (dt, .list (aints (dat ss bs))) ∈ σ) (hs : Da ss bs)
    (h : ∀ D us τ, Prs c (liveP ss) us τ → Q (.ref D) ((D, .list us) :: (τ ++ σ))) : TC c (n + 5) (.glob "live_entries") [.ref d] σ Q := by
  have ⟨h1, h2⟩ := hd
  refine t_fn ["disk"] (f' := "live_entries") rfl (fun pm code doc vs hv => by obtain ⟨a0, rfl⟩ := len1 hv; rfl) rfl rfl fun hn => ?_
  repeat tb_rel
  rename_i D
  refine x_for (TIt.range ?_ (by top_args) (by top_args))
  repeat tb_rel
  refine ⟨4, rfl, by decide, fun i ρ => ∃ us τ, ρ = (D, .list us) :: (τ ++ σ) ∧ Prs c (liveN ss i) us τ, wk0 ⟨[], [], rfl, .nil⟩, ?_, ?_⟩
  · rintro i iv σi hi ⟨us, τ, rfl, hp⟩
    obtain ⟨hk, rfl⟩ := upto_get hi
    obtain ⟨o, ho, hok⟩ := hs.get hk
    repeat tb_rel
    refine c_read_entry (hd.up fun p hp => mem_tl (List.mem_append_right _ hp)) (mem_tl (List.mem_append_right _ hx)) hs hk ho (fun e0 => ?_) fun e he x ex r mp => ?_
    · subst e0
      repeat tb_rel
      refine en .refl ((Has.refl.put rfl).put rfl) ⟨us, τ, rfl, ?_⟩
      unfold liveN; rw [ho, List.append_nil]; exact hp
    · subst he
      unfold entO
      dsimp only [List.cons_append, List.nil_append]
      repeat tb_rel
      refine t_append (t_name rfl ⟨D, rfl, ⟨us, by boot_fact⟩, ?_⟩) (by top_args) (by top_args) (by top_args)
      repeat tb_rel
      rename_i t
      refine ⟨us, _, by top_raise0, ?_, ?_⟩
      · have := hp.len; have := liveN_len (ss := ss) (i := i); lia
      repeat tb_rel
      refine en (σ' := (D, .list (us ++ [.ref t])) :: ((t, .tup [.int i, .ref x]) :: (entO c e x ex r mp ++ τ) ++ σ)) ?_ ((Has.refl.put rfl).put rfl) ⟨_, _, rfl, ?_⟩
      · unfold entO
        dsimp only [List.cons_append, List.nil_append]
        k_caught0
      · unfold liveN; rw [ho]; exact .snoc hp
  · rintro σi ⟨us, τ, rfl, hp⟩
    rw [upto_len] at hp
    refine wk .refl ?_
    repeat tb_rel
    exact rr .refl (h D us τ hp)
end
set_option maxRecDepth 100000
set_option maxHeartbeats 4000000
section
variable {c : Cx} {n : Nat} {sc : Scope} {σ σ' Z : Hp} {m m' : Lm} {ss : List (Option En)} {bs : List (List Int)}
noncomputable def markB (u : List Bool) (b : Int) : List Bool := if 0 < b ∧ b < 24 then u.set b.toNat true else u
noncomputable def markP (u : List Bool) (mp : List Int) : List Bool := mp.foldl markB u
noncomputable def used0 : Nat → List Bool := fun i => (List.range i).map fun k => decide (k < 16)
noncomputable def usedL (ps : List (Nat × En)) : List Bool := ps.foldl (fun u p => markP u p.2.map) (used0 24)
noncomputable def usedP (ss : List (Option En)) : List Bool := usedL (liveP ss)
theorem markB_len {u : List Bool} {b : Int} : (markB u b).length = u.length := by unfold markB; split <;> simp
theorem markP_len {mp : List Int} : ∀ {u : List Bool}, (markP u mp).length = u.length := by
  unfold markP
  induction mp with
  | nil => intro u; rfl
  | cons b mp ih => intro u; rw [List.foldl_cons, ih, markB_len]
theorem usedF_len : ∀ {ps : List (Nat × En)} {u : List Bool}, (ps.foldl (fun u p => markP u p.2.map) u).length = u.length
  | [], _ => rfl
  | p :: ps, u => by rw [List.foldl_cons, usedF_len, markP_len]
theorem usedL_len {ps : List (Nat × En)} : (usedL ps).length = 24 := by unfold usedL; rw [usedF_len]; rfl
theorem used0_succ {i : Nat} : used0 (i + 1) = used0 i ++ [decide (i < 16)] := by simp [used0, List.range_succ]
theorem c_used_blocks {d dx g dt : Addr} {Q : AV → Hp → Prop} (hd : Dk c σ d dx g dt) (hx : (dt, .list (aints (dat ss bs))) ∈ σ) (hg : (g, .list (aints [])) ∈ σ) (hs : Da ss bs)
    (h : ∀ D, Q (.ref D) ((D, .list (abools (usedP ss))) :: σ)) : TC c (n + 6) (.glob "used_blocks") [.ref d] σ Q := by
  have ⟨h1, h2⟩ := hd
  refine t_fn ["disk"] (f' := "used_blocks") rfl (fun pm code doc vs hv => by obtain ⟨a0, rfl⟩ := len1 hv; rfl) rfl rfl fun hn => ?_
  refine s_cons (x_assign_comp (TIt.range ?_ (by top_args) (by top_args)) (by top_args) (by top_args))
  repeat tb_rel
  refine ⟨24, rfl, by decide, fun i τ acc => τ = σ ∧ acc = abools (used0 i), ⟨rfl, rfl⟩, by decide, ?_, ?_⟩
  · rintro i iv τ acc hi ⟨rfl, rfl⟩
    obtain ⟨hk, rfl⟩ := upto_get hi
    repeat tb_rel
    have ee : ∀ b, b = decide (i < 16) → (τ = τ ∧ abools (used0 i) ++ [.bool b] = abools (used0 (i + 1))) := fun b hb => ⟨rfl, by rw [used0_succ, hb]; simp [abools]⟩
    refine t_or ?_
    repeat tb_rel
    refine c_directory_blocks (by assumption) ?_
    repeat tb_rel
    by_cases q : i < 16
    · refine br_t (by top_raise) ?_
      exact ee _ (by simp; lia)
    · refine br_f (by top_raise) ?_
      repeat tb_rel
      refine cm_in (xs := []) (by assumption) ?_
      exact ee _ (by simp; lia)
  · rintro τ acc ⟨rfl, rfl⟩ D
    rw [upto_len]
    dsimp only [List.cons_append, List.nil_append]
    repeat tb_rel
    refine x_for (it_list ?_)
    repeat tb_rel
    refine c_live_entries (hd.up (by top_caught0)) (mem_tl hx) hs fun L us ρ hp => ?_
    repeat tb_rel
    refine ⟨L, us, _, rfl, .head, fun i ξ => ξ = (D, .list (abools (((liveP ss).take i).foldl (fun u p => markP u p.2.map) (used0 24)))) :: (ρ ++ τ), ?_, ?_, ?_⟩
    · exact wk .mid rfl
    · rintro i iv ξ hi rfl
      obtain ⟨a, hu, rfl⟩ := map_get hi
      obtain ⟨k, e, t, x, ex, r, mp, e1, rfl, p1, p2⟩ := hp.get hu
      have p3 : (t, AO.tup [.int k, .ref x]) ∈ ρ ++ τ := List.mem_append_left _ p1
      have ⟨p4, p5, p6, p7⟩ := p2.up (σ' := ρ ++ τ) fun p hp => List.mem_append_left _ hp
      have p8 : (d, AO.inst c.cD dx) ∈ ρ ++ τ := List.mem_append_right _ h1
      have p9 : (dx, AO.attrs (diskFs g dt)) ∈ ρ ++ τ := List.mem_append_right _ h2
      repeat tb_rel
      refine x_for (it_list ?_)
      repeat tb_rel
      obtain ⟨σ0, hpk⟩ := Pick.exists p7
      have r8 := hpk.rest p8 (by simp)
      have r9 := hpk.rest p9 (by simp)
      generalize hU : ((liveP ss).take i).foldl (fun u p => markP u p.2.map) (used0 24) = U
      have hUl : U.length = 24 := by rw [← hU, usedF_len]; rfl
      refine ⟨mp, _, _, rfl, .tail hpk, fun j ζ => ζ = (D, .list (abools (markP U (e.map.take j)))) :: σ0, ?_, ?_, ?_⟩
      · exact wk0 (by simp [markP])
      · rintro j jv ζ hj rfl
        obtain ⟨b, hb, rfl⟩ := map_get hj
        obtain ⟨v, hv, rfl⟩ := aints_get hb
        have fin : Mine.markP U (e.map.take (j + 1)) = markB (markP U (e.map.take j)) v := foldl_take hv
        repeat tb_rel
        by_cases q1 : 0 < v
        · by_cases q2 : v < 24
          · refine ⟨fun q => by simp [q1] at q, fun _ => ?_⟩
            repeat tb_rel
            refine set_list (xs := abools (markP U (e.map.take j))) (by top_raise0) (by lia) (by simp [abools, markP_len, hUl]; lia) (by simp [abools, markP_len, hUl]) ?_
            repeat tb_rel
            refine en .refl (has1 rfl) ?_
            show _ = _
            rw [fin, abools_set, markB, if_pos ⟨q1, q2⟩]
          · refine ⟨fun q => by simp [q1] at q, fun _ => ?_⟩
            repeat tb_rel
            refine en .refl (has1 rfl) ?_
            show _ = _
            rw [fin, markB, if_neg (by lia)]
        · refine ⟨fun _ => ?_, fun q => by simp [q1] at q⟩
          repeat tb_rel
          refine en .refl (has1 rfl) ?_
          show _ = _
          rw [fin, markB, if_neg (by lia)]
      · rintro ζ rfl
        rw [List.length_map, show (aints e.map).length = e.map.length by simp [aints], List.take_length]
        refine wk (σ' := (D, .list (abools (markP U e.map))) :: (ρ ++ τ)) ?_ ?_
        · refine Less.trans ((Less.perm hpk.perm.symm).both) ?_
          dsimp only [List.cons_append, List.nil_append]
          k_caught0
        repeat tb_rel
        refine en .refl (has2 rfl rfl) ?_
        show _ = _
        rw [foldl_take e1, hU]
    · rintro ξ rfl
      rw [List.length_map, hp.len, List.take_length]
      refine wk .refl ?_
      repeat tb_rel
      refine rr ?_ (h D)
      dsimp only [List.cons_append, List.nil_append]
      exact .drop (.both (.right _ .refl))
end
set_option maxRecDepth 100000
set_option maxHeartbeats 4000000
section
variable {c : Cx} {n : Nat} {sc : Scope} {σ σ' Z : Hp} {m m' : Lm} {ss : List (Option En)} {bs : List (List Int)}
noncomputable def freeI (u : List Bool) : Nat → List Int
  | 0 => []
  | i + 1 => freeI u i ++ (match u[i]? with | some false => [(i : Int)] | _ => [])
theorem c_free_blocks {d dx g dt : Addr} {Q : AV → Hp → Prop} (hd : Dk c σ d dx g dt) (hx : (dt, .list (aints (dat ss bs))) ∈ σ) (hg : (g, .list (aints [])) ∈ σ) (hs : Da ss bs)
    (h : ∀ D, Q (.ref D) ((D, .list (aints (freeI (usedP ss) 24))) :: σ)) : TC c (n + 7) (.glob "free_blocks") [.ref d] σ Q := by
  refine t_fn ["disk"] (f' := "free_blocks") rfl (fun pm code doc vs hv => by obtain ⟨a0, rfl⟩ := len1 hv; rfl) rfl rfl fun hn => ?_
  refine s_cons (x_ret (t_comp (TIt.enum ?_ (by top_args) (by top_args)) (by top_args)))
  repeat tb_rel
  refine c_used_blocks hd hx hg hs fun L => ?_
  repeat tb_rel
  have hul : (usedP ss).length = 24 := usedL_len
  refine ⟨L, _, _, rfl, .head, fun i τ acc => τ = σ ∧ acc = aints (freeI (usedP ss) i), ⟨rfl, rfl⟩, by simp [enumL_len, abools, hul], ?_, ?_⟩
  · rintro i iv τ acc hi ⟨rfl, rfl⟩
    obtain ⟨a, ha, rfl⟩ := enumL_get hi
    obtain ⟨v, hv, rfl⟩ := abools_get ha
    repeat tb_rel
    cases v with
    | true =>
      refine ⟨fun _ => ?_, fun q => (by cases q)⟩
      refine ⟨rfl, ?_⟩
      show _ = aints (freeI (usedP ss) i ++ _)
      rw [hv]; simp
    | false =>
      refine ⟨fun q => (by cases q), fun _ => ?_⟩
      repeat tb_rel
      refine ⟨rfl, ?_⟩
      show _ = aints (freeI (usedP ss) i ++ _)
      rw [hv]; simp [aints]
  · rintro τ acc ⟨rfl, rfl⟩ D
    rw [enumL_len, show (abools (usedP ss)).length = 24 by simp [abools, hul]]
    exact rr (.both (.right _ .refl)) (h D)
theorem i_bool {l : Addr} {xs : List Bool} {k : Int} {v : Bool} {Q : AV → Hp → Prop} (hm : (l, .list (abools xs)) ∈ σ) (hv : xs[k.toNat]? = some v) (h : Q (.bool v) σ) (hk : 0 ≤ k) (hk2 : k < 2 ^ 62) : TIdx c n σ (.ref l) (.int k) Q :=
  i_list hm hk hk2 (v := .bool v) (by unfold abools; rw [List.getElem?_map, hv]; rfl) h
noncomputable def nearP (u : List Bool) : Nat → Nat → Nat → Option Nat
  | 0, _, _ => none
  | k + 1, l, r =>
    if 0 < l ∨ r < 23 then
      if 0 < l ∧ u[l - 1]? = some false then some (l - 1)
      else if r < 23 ∧ u[r + 1]? = some false then some (r + 1)
      else nearP u k (l - 1) (if r < 23 then r + 1 else r)
    else none
noncomputable def cNear (L : Addr) (l r : Nat) : Lm := bindA [("is_used", AV.ref L), ("left", .int (l : Nat)), ("right", .int (r : Nat))] fun _ => none
theorem has_put {m m1 : Lm} {x : Str} {v : AV} (h : Has m m1) : Has (mput m x v) (mput m1 x v) := fun y w hy => by
  unfold mput at hy ⊢
  split
  · rename_i e; rwa [if_pos e] at hy
  · rename_i e; rw [if_neg e] at hy; exact h y w hy
theorem mput_mput {m : Lm} {x : Str} {v w : AV} : mput (mput m x v) x w = mput m x w := by
  funext y; unfold mput; split <;> rfl
theorem mput_comm {m : Lm} {x y : Str} {v w : AV} (h : x ≠ y) : mput (mput m x v) y w = mput (mput m y w) x v := by
  funext z; unfold mput
  by_cases e1 : z = y
  · subst e1
    rw [if_pos rfl, if_neg (Ne.symm h), if_pos rfl]
  · rw [if_neg e1]
    by_cases e2 : z = x
    · rw [if_pos e2, if_pos e2]
    · rw [if_neg e2, if_neg e2, if_neg e1]
theorem cn_eq {L : Addr} {l r : Nat} : cNear L l r = mput (mput (mput (fun _ => none) "is_used" (.ref L)) "left" (.int l)) "right" (.int r) := rfl
theorem cn_has4 {L : Addr} {l r r' : Nat} : Has (cNear L l r') (mput (cNear L l r) "right" (.int (r' : Nat))) := by rw [cn_eq, cn_eq, mput_mput]; exact Has.refl
theorem cn_has3 {L : Addr} {l l' r : Nat} : Has (cNear L l' r) (mput (cNear L l r) "left" (.int (l' : Nat))) := by
  rw [cn_eq, cn_eq, mput_comm (x := "right") (y := "left") (by decide), mput_mput]; exact Has.refl
theorem cn_has2 {L : Addr} {l l' r r' : Nat} : Has (cNear L l' r') (mput (mput (cNear L l r) "left" (.int (l' : Nat))) "right" (.int (r' : Nat))) := by
  rw [cn_eq, cn_eq, mput_comm (x := "right") (y := "left") (by decide), mput_mput, mput_mput]; exact Has.refl
theorem cn_has {L : Addr} {near : Nat} {a b : AV} : Has (bindA [("is_used", .ref L), ("left", a), ("right", b)] fun _ => none) (mput (mput (mput (mput (fun _ => none) "is_used" (.ref L)) "near" (.int (near : Nat))) "right" b) "left" a) := by
  rw [mput_comm (x := "right") (y := "left") (by decide)]
  show Has (mput (mput (mput (fun _ => none) "is_used" (.ref L)) "left" a) "right" b) _
  exact has_put (has_put (Has.refl.put rfl))
theorem c_nearest_free {L : Addr} {u : List Bool} {near k : Nat} {Q : AV → Hp → Prop} (hu : (L, .list (abools u)) ∈ σ) (hl : u.length = 24) (hk : nearP u 48 (min near 24) near = some k) (h : Q (.int k) σ) :
    TC c (n + 1) (.glob "nearest_free") [.ref L, .int near] σ Q := by
  refine t_fn ["is_used", "near"] (f' := "nearest_free") rfl (fun pm code doc vs hv => by obtain ⟨a0, a1, rfl⟩ := len2 hv; rfl) rfl rfl fun hn => ?_
  refine s_cons (x_tts (ns := ["left", "right"]) (fun env he => by cases env; cases he; rfl) ?_ (by top_args))
  repeat tb_rel
  refine f_len hu ?_ (by simp [abools, hl])
  repeat tb_rel
  rename_i t
  refine ⟨t, _, rfl, mem_hd, rfl, ?_⟩
  repeat tb_rel
  refine x_whileH (fun k' τ m => ∃ l r : Nat, m = cNear L l r ∧ τ = (t, AO.tup [.int (min near (abools u).length), .int near]) :: σ ∧ l ≤ 24 ∧ nearP u k' l r = some k) 48 ?_ ?_
  · refine ⟨cNear L (min near 24) near, ?_, min near 24, near, rfl, rfl, by lia, hk⟩
    unfold cNear
    rw [show ((min near 24 : Nat) : Int) = min (near : Int) ((abools u).length : Int) by simp [abools, hl]; lia]
    exact cn_has
  · rintro k' τ m ⟨l, r, rfl, rfl, hl2, hn⟩
    cases k' with
    | zero => cases hn
    | succ k' =>
      unfold nearP at hn
      have hab : ((abools u).length : Int) = 24 := by simp [abools, hl]
      by_cases q1 : 0 < l
      · obtain ⟨v, hv⟩ : ∃ v, u[l - 1]? = some v := ⟨_, List.getElem?_eq_getElem (by lia)⟩
        rw [if_pos (Or.inl q1)] at hn
        repeat tb_rel
        refine x_augsub rfl ?_ (by top_args)
        repeat tb_rel
        refine ⟨1, rfl, ?_⟩
        repeat tb_rel
        refine i_bool (v := v) (by boot_fact) (by rw [show ((l : Int) - 1).toNat = l - 1 by lia]; exact hv) ?_ (by lia) (by lia)
        repeat tb_rel
        cases v with
        | false =>
          rw [if_pos ⟨q1, hv⟩] at hn
          refine br_t rfl ?_
          repeat tb_rel
          have hk : k = l - 1 := (Option.some.inj hn).symm
          subst hk
          rw [show (l : Int) - 1 = ((l - 1 : Nat) : Int) by lia]
          exact rr (.drop .refl) h
        | true =>
        rw [if_neg (fun h => by rw [hv] at h; simp at h)] at hn
        refine br_f rfl ?_
        repeat tb_rel
        have cn : Has (cNear L (l - 1) (r + 1)) (mput (mput (cNear L l r) "left" (.int (l - 1))) "right" (.int (r + 1))) := by
          have := cn_has2 (L := L) (l := l) (r := r) (l' := l - 1) (r' := r + 1) 
          rwa [show ((l - 1 : Nat) : Int) = (l : Int) - 1 by lia] at this
        have cn2 : Has (cNear L (l - 1) r) (mput (cNear L l r) "left" (.int (l - 1))) := by
          have := cn_has3 (L := L) (l := l) (r := r) (l' := l - 1)
          rwa [show ((l - 1 : Nat) : Int) = (l : Int) - 1 by lia] at this
        by_cases q2 : r < 23
        · obtain ⟨w, hw⟩ : ∃ w, u[r + 1]? = some w := ⟨_, List.getElem?_eq_getElem (by lia)⟩
          refine f_len (by boot_fact) ?_ (by simp [abools, hl])
          repeat tb_rel
          refine x_augadd rfl ?_ (by top_args)
          repeat tb_rel
          refine ⟨1, rfl, ?_⟩
          repeat tb_rel
          refine i_bool (v := w) (by boot_fact) (by rw [show ((r : Int) + 1).toNat = r + 1 by lia]; exact hw) ?_ (by lia) (by lia)
          repeat tb_rel
          cases w with
          | false =>
            rw [if_pos ⟨q2, hw⟩] at hn
            refine br_t rfl ?_
            repeat tb_rel
            have hk : k = r + 1 := (Option.some.inj hn).symm
            subst hk
            exact rr (.drop .refl) h
          | true =>
            rw [if_neg (by rw [hw]; simp), if_pos q2] at hn
            refine br_f rfl ?_
            repeat tb_rel
            exact ⟨k', Nat.lt_succ_self _, cNear L (l - 1) (r + 1), fun x v hx => cn x v (by have := hx; exact this), l - 1, r + 1, rfl, rfl, by lia, hn⟩
        · refine f_len (by boot_fact) ?_ (by simp [abools, hl])
          rw [if_neg (fun h => q2 h.1), if_neg q2] at hn
          repeat tb_rel
          exact ⟨k', Nat.lt_succ_self _, cNear L (l - 1) r, fun x v hx => cn2 x v hx, l - 1, r, rfl, rfl, by lia, hn⟩
      · have hl0 : l = 0 := by lia
        subst hl0
        have q2 : r < 23 := by
          by_cases q2 : r < 23
          · exact q2
          · simp [q2] at hn
        rw [if_pos (Or.inr q2), if_neg (fun h => q1 h.1)] at hn
        repeat tb_rel
        refine f_len (by boot_fact) ?_ (by simp [abools, hl])
        repeat tb_rel
        have cn : Has (cNear L (0 - 1) (r + 1)) (mput (cNear L 0 r) "right" (.int (r + 1))) := cn_has4
        have cn2 : Has (cNear L (0 - 1) r) (cNear L 0 r) := Has.refl
        · obtain ⟨w, hw⟩ : ∃ w, u[r + 1]? = some w := ⟨_, List.getElem?_eq_getElem (by lia)⟩
          refine f_len (by boot_fact) ?_ (by simp [abools, hl])
          repeat tb_rel
          refine x_augadd rfl ?_ (by top_args)
          repeat tb_rel
          refine ⟨1, rfl, ?_⟩
          repeat tb_rel
          refine i_bool (v := w) (by boot_fact) (by rw [show ((r : Int) + 1).toNat = r + 1 by lia]; exact hw) ?_ (by lia) (by lia)
          repeat tb_rel
          cases w with
          | false =>
            rw [if_pos ⟨q2, hw⟩] at hn
            refine br_t rfl ?_
            repeat tb_rel
            have hk : k = r + 1 := (Option.some.inj hn).symm
            subst hk
            exact rr (.drop .refl) h
          | true =>
            rw [if_neg (by rw [hw]; simp), if_pos q2] at hn
            refine br_f rfl ?_
            repeat tb_rel
            exact ⟨k', Nat.lt_succ_self _, cNear L (0 - 1) (r + 1), fun x v hx => cn x v (by have := hx; exact this), 0 - 1, r + 1, rfl, rfl, by lia, hn⟩
end
set_option maxRecDepth 100000
set_option maxHeartbeats 4000000
section
variable {c : Cx} {n : Nat} {sc : Scope} {σ σ' Z : Hp} {m m' : Lm} {ss : List (Option En)} {bs : List (List Int)}
theorem c_allocate {d dx g dt : Addr} {near k : Nat} {Q : AV → Hp → Prop} (hd : Dk c σ d dx g dt) (hx : (dt, .list (aints (dat ss bs))) ∈ σ) (hg : (g, .list (aints [])) ∈ σ) (hs : Da ss bs)
    (hk : nearP (usedP ss) 48 (min near 24) near = some k) (h : Q (.int k) σ) : TC c (n + 7) (.glob "allocate") [.ref d, .int near] σ Q := by
  refine t_fn ["disk", "near"] (f' := "allocate") rfl (fun pm code doc vs hv => by obtain ⟨a0, a1, rfl⟩ := len2 hv; rfl) rfl rfl fun hn => ?_
  repeat tb_rel
  refine c_used_blocks hd hx hg hs fun L => ?_
  repeat tb_rel
  refine c_nearest_free mem_hd usedL_len hk ?_
  repeat tb_rel
  exact rr (by k_caught0) h
theorem c_record_place {d dx g dt : Addr} {b : Int} {Q : AV → Hp → Prop} (hd : Dk c σ d dx g dt) (h0 : 0 ≤ b) (h1 : b < 24) (h : Q (.int (8 * b)) σ) : TC c (n + 2) (.glob "record_place") [.ref d, .int b, .int 0] σ Q := by
  have ⟨d1, d2⟩ := hd
  refine t_fn ["disk", "block", "index"] (f' := "record_place") rfl (fun pm code doc vs hv => by obtain ⟨a0, a1, a2, rfl⟩ := len3 hv; rfl) rfl rfl fun hn => ?_
  repeat tb_rel
  refine c_records_of_block hd ?_
  repeat tb_rel
  refine rr (by k_caught0) (q_int h (by lia))
theorem c_read_record {d dx g dt : Addr} {k : Nat} {b : List Int} {Q : AV → Hp → Prop} (hd : Dk c σ d dx g dt) (hx : (dt, .list (aints (dat ss bs))) ∈ σ) (hs : Da ss bs) (hk : bs[k]? = some b)
    (h : ∀ D, Q (.ref D) ((D, .list (aints b)) :: σ)) : TC c (n + 3) (.glob "read_record") [.ref d, .int ((16 + k : Nat) : Int), .int 0] σ Q := by
  have ⟨d1, d2⟩ := hd
  have hk8 : k < 8 := by rw [← hs.bl]; exact (List.getElem?_eq_some_iff.mp hk).1
  refine t_fn ["disk", "block", "index"] (f' := "read_record") rfl (fun pm code doc vs hv => by obtain ⟨a0, a1, a2, rfl⟩ := len3 hv; rfl) rfl rfl fun hn => ?_
  repeat tb_rel
  refine c_record_place hd (by lia) (by lia) ?_
  repeat tb_rel
  refine ⟨_, _, _, _, rfl, rfl, rfl, by boot_fact, by lia, by lia, by simp [aints, hs.dlen], fun D => rr (by k_caught0) ?_⟩
  have := h D
  rwa [cut_ints (x := 128 + 8 * k) (y := 128 + 8 * k + 8) (by lia) (by lia), show 128 + 8 * k + 8 - (128 + 8 * k) = 8 by lia, hs.block hk]
theorem c_write_record {d dx g dt o : Addr} {k : Nat} {b : List Int} {Q : AV → Hp → Prop} (hd : Dk c σ d dx g dt) (ho : (o, .list (aints b)) ∈ σ) (hs : Da ss bs) (hk : k < 8) (hb : b.length = 8)
    (hu : Mine.Upd σ dt (.list (aints (dat ss bs))) (.list (aints (dat ss (bs.set k b)))) σ') (h : Q .none σ') : TC c (n + 3) (.glob "write_record") [.ref d, .int ((16 + k : Nat) : Int), .int 0, .ref o] σ Q := by
  refine TC.upd hu h fun σr hm hnd => ?_
  have h1 := hm _ hd.1 (by simp)
  have h2 := hm _ hd.2 (by simp)
  have h3 := hm _ ho (by simp only [ne_eq, AO.list.injEq]; intro e; have := congrArg List.length e; simp [aints, hb, hs.dlen] at this)
  clear hm
  have hxl := hs.dlen
  rw [← hs.setBlock hk hb]
  generalize dat ss bs = xs at *
  refine t_fn ["disk", "block", "index", "octets"] (f' := "write_record") rfl (fun pm code doc vs hv => by obtain ⟨a0, a1, a2, a3, rfl⟩ := len4 hv; rfl) rfl rfl fun hn => ?_
  repeat tb_rel
  refine c_need_writable ⟨mem_tl h1, mem_tl h2⟩ ?_
  repeat tb_rel
  refine c_record_place ⟨mem_tl h1, mem_tl h2⟩ (by lia) (by lia) ?_
  repeat tb_rel
  refine f_len (by boot_fact) ?_ (by simp [aints, hb])
  rw [show (aints b).length = 8 by simp [aints, hb]]
  repeat tb_rel
  obtain ⟨σ0, hp⟩ := Pick.exists h3
  have g1 := hp.rest h1 (by simp)
  have g2 := hp.rest h2 (by simp)
  refine x_for (TIt.enum (t_name rfl ⟨_, _, _, rfl, .tail hp, fun i τ => τ = (dt, .list (aints (splice xs (128 + 8 * k) (b.take i)))) :: σ0, wk0 (by simp [splice_nil]), ?_, ?_⟩) (by top_args) (by top_args))
  · rintro i iv σi hi rfl
    obtain ⟨a, e1, rfl⟩ := enumL_get hi
    obtain ⟨v, e2, rfl⟩ := aints_get e1
    have hi' := (List.getElem?_eq_some_iff.mp e2).1
    repeat tb_rel
    refine set_list (xs := aints (splice xs (128 + 8 * k) (b.take i))) (by top_raise0) (by lia) ?_ ?_ ?_
    · simp only [aints, List.length_map]; rw [splice_len (by simp; lia)]; lia
    · simp only [aints, List.length_map]; rw [splice_len (by simp; lia)]; lia
    repeat tb_rel
    refine en .refl ((Has.refl.put rfl).put rfl) ?_
    show _ = _
    rw [aints_set, show (8 * ((16 + k : Nat) : Int) + i).toNat = 128 + 8 * k + i by lia, splice_snoc e2 (by lia)]
  · rintro σi rfl
    rw [enumL_len, show (aints b).length = b.length by simp [aints], List.take_length]
    refine wk (σ' := (dt, .list (aints (splice xs (128 + 8 * k) b))) :: σr) ?_ ?_
    · refine Less.trans ((Less.perm hp.perm.symm).both) ?_
      dsimp only [List.cons_append, List.nil_append]
      k_caught0
    repeat tb_rel
    exact rn .refl ⟨rfl, rfl⟩
end
set_option maxRecDepth 100000
set_option maxHeartbeats 4000000
section
variable {c : Cx} {n : Nat} {sc : Scope} {σ σ' Z : Hp} {m m' : Lm} {ss : List (Option En)} {bs : List (List Int)}
noncomputable def metB (ks : List Int) (b : Int) : List Int := if ks.contains b then ks else ks ++ [b]
noncomputable def okB (ks : List Int) (b : Int) : Bool := b == 0 || (!ks.contains b && decide (b < 24) && decide (16 ≤ b))
noncomputable def okM : List Int → List Int → Bool
  | _, [] => true
  | ks, b :: t => okB ks b && okM (metB ks b) t
noncomputable def okL : List Int → List (Nat × En) → Bool
  | _, [] => true
  | ks, p :: t => okM ks p.2.map && okL (p.2.map.foldl metB ks) t
theorem okM_get : ∀ {l ks : List Int} {j : Nat} {v : Int}, okM ks l = true → l[j]? = some v → okB ((l.take j).foldl metB ks) v = true
  | [], _, _, _, _, h => by simp at h
  | b :: t, ks, 0, v, h, e => by
    simp at e; subst e
    unfold okM at h; rw [Bool.and_eq_true] at h
    exact h.1
  | b :: t, ks, j + 1, v, h, e => by
    unfold okM at h; rw [Bool.and_eq_true] at h
    have := okM_get (j := j) h.2 (by simpa using e)
    exact this
theorem okL_get : ∀ {l : List (Nat × En)} {ks : List Int} {j : Nat} {p : Nat × En}, okL ks l = true → l[j]? = some p → okM ((l.take j).foldl (fun ks p => p.2.map.foldl metB ks) ks) p.2.map = true
  | [], _, _, _, _, h => by simp at h
  | b :: t, ks, 0, v, h, e => by
    simp at e; subst e
    unfold okL at h; rw [Bool.and_eq_true] at h
    exact h.1
  | b :: t, ks, j + 1, v, h, e => by
    unfold okL at h; rw [Bool.and_eq_true] at h
    have := okL_get (j := j) h.2 (by simpa using e)
    exact this
theorem metB_len {ks : List Int} {b : Int} : (metB ks b).length ≤ ks.length + 1 := by unfold metB; split <;> simp
theorem c_faults_of {d dx g dt : Addr} {Q : AV → Hp → Prop} (hd : Dk c σ d dx g dt) (hx : (dt, .list (aints (dat ss bs))) ∈ σ) (hs : Da ss bs) (hok : okL [] (liveP ss) = true)
    (h : ∀ D, Q (.ref D) ((D, .list (aints [])) :: σ)) : TC c (n + 6) (.glob "faults_of") [.ref d] σ Q := by
  have ⟨h1, h2⟩ := hd
  refine t_fn ["disk"] (f' := "faults_of") rfl (fun pm code doc vs hv => by obtain ⟨a0, rfl⟩ := len1 hv; rfl) rfl rfl fun hn => ?_
  refine s_cons (x_tts (ns := ["met", "found"]) (fun env he => by cases env; cases he; rfl) ?_ (by top_args))
  repeat tb_rel
  refine t_dict0 fun D hD => ?_
  repeat tb_rel
  refine t_dict0 fun E hE => ?_
  repeat tb_rel
  rename_i T
  refine ⟨T, _, rfl, mem_hd, rfl, ?_⟩
  repeat tb_rel
  refine x_for (it_list ?_)
  repeat tb_rel
  refine c_live_entries (hd.up (by top_caught0)) (by boot_fact) hs fun L us τ hp => ?_
  repeat tb_rel
  refine ⟨L, us, _, rfl, .head, fun i ρ => ∃ ks, ρ = (D, .dict ks) :: (E, .dict []) :: (τ ++ σ) ∧ ks = (((liveP ss).take i).foldl (fun ks p => p.2.map.foldl metB ks) []) ∧ ks.length ≤ 16 * i, ?_, ?_, ?_⟩
  · refine wk (σ' := (D, .dict []) :: (E, .dict []) :: (τ ++ σ)) ?_ ⟨[], rfl, rfl, by simp⟩
    refine Less.trans ?_ (Less.flip (a := [_, _, _]))
    dsimp only [List.cons_append, List.nil_append]
    k_caught0
  · rintro i iv ρ hi ⟨ks, rfl, hks, hkl⟩
    obtain ⟨a, hu, rfl⟩ := map_get hi
    obtain ⟨k, e, t, x, ex, r, mp, e1, rfl, p1, p2⟩ := hp.get hu
    have hm16 : e.map.length = 16 := (hs.ok e (List.mem_of_getElem? (live_mem (List.mem_of_getElem? e1)).1)).map
    have hokm := okL_get hok e1
    rw [← hks] at hokm
    have hks2 := foldl_take (f := fun ks p => p.2.map.foldl metB ks) (a := []) e1
    rw [← hks] at hks2
    have p3 : (t, AO.tup [.int k, .ref x]) ∈ τ ++ σ := List.mem_append_left _ p1
    have ⟨p4, p5, p6, p7⟩ := p2.up (σ' := τ ++ σ) fun p hp => List.mem_append_left _ hp
    have p8 : (d, AO.inst c.cD dx) ∈ τ ++ σ := List.mem_append_right _ h1
    have p9 : (dx, AO.attrs (diskFs g dt)) ∈ τ ++ σ := List.mem_append_right _ h2
    repeat tb_rel
    refine x_for (it_list ?_)
    repeat tb_rel
    obtain ⟨σ0, hpk⟩ := Pick.exists p7
    have r8 := hpk.rest p8 (by simp)
    have r9 := hpk.rest p9 (by simp)
    refine ⟨mp, _, _, rfl, .tail (.tail hpk), fun j ζ => ∃ ks', ζ = (D, .dict ks') :: (E, .dict []) :: σ0 ∧ ks' = (e.map.take j).foldl metB ks ∧ ks'.length ≤ 16 * i + j, wk0 ⟨ks, rfl, rfl, hkl⟩, ?_, ?_⟩
    · rintro j jv ζ hj ⟨ks', rfl, hks', hkl'⟩
      obtain ⟨b, hb, rfl⟩ := map_get hj
      obtain ⟨v, hv, rfl⟩ := aints_get hb
      have hb := okM_get hokm hv
      have hmet := foldl_take (f := metB) (a := ks) hv
      rw [← hks'] at hb hmet
      have hi4 : i < 4 := by
        have := (List.getElem?_eq_some_iff.mp e1).1
        have := liveN_len (ss := ss) (i := 4)
        unfold liveP at *
        lia
      have hj16 : j < 16 := by have := (List.getElem?_eq_some_iff.mp hv).1; lia
      have fin : ∀ {m m' : Lm}, Has m m' → endN (Wk (fun ζ => ∃ ks', ζ = (D, AO.dict ks') :: (E, .dict []) :: σ0 ∧ ks' = (e.map.take (j + 1)).foldl metB ks ∧ ks'.length ≤ 16 * i + (j + 1))) m ((D, .dict (metB ks' v)) :: (E, .dict []) :: σ0) m' := fun hm =>
        en .refl hm ⟨_, rfl, hmet.symm, by have := metB_len (ks := ks') (b := v); lia⟩
      repeat tb_rel
      by_cases q1 : v = 0
      · refine ⟨fun _ => ?_, fun q => by simp [q1] at q⟩
        repeat tb_rel
        refine set_dict (ks := ks') (by top_raise0) (by lia) ?_
        repeat tb_rel
        exact fin (has1 rfl)
      · refine ⟨fun q => by simp [q1] at q, fun _ => ?_⟩
        unfold okB at hb
        simp only [Bool.or_eq_true, Bool.and_eq_true, beq_iff_eq, q1, false_or, Bool.not_eq_true', decide_eq_true_eq] at hb
        obtain ⟨⟨b1, b2⟩, b3⟩ := hb
        repeat tb_rel
        refine cm_ind mem_hd hD ?_
        rw [b1]
        repeat tb_rel
        refine c_directory_blocks ⟨by boot_fact, by boot_fact⟩ ?_
        repeat tb_rel
        refine set_dict (ks := ks') (by top_raise0) (by lia) ?_
        repeat tb_rel
        exact fin (has1 rfl)
    · rintro ζ ⟨ks', rfl, hks', hkl'⟩
      rw [List.length_map, show (aints e.map).length = e.map.length by simp [aints]] at hks' hkl'
      rw [List.take_length] at hks'
      refine wk (σ' := (D, .dict ks') :: (E, .dict []) :: (τ ++ σ)) ?_ ?_
      · refine Less.trans ((Less.perm hpk.perm.symm).both.both) ?_
        dsimp only [List.cons_append, List.nil_append]
        k_caught0
      repeat tb_rel
      refine en .refl (has2 rfl rfl) ⟨ks', rfl, by rw [hks', hks2], by lia⟩
  · rintro ρ ⟨ks, rfl, hks, hkl⟩
    refine wk .refl ?_
    repeat tb_rel
    dsimp only [List.cons_append, List.nil_append]
    refine f_sorted0 (by boot_fact) hE fun B => ?_
    refine rr ?_ (h B)
    exact .both (.drop (.drop (.drop (.right _ .refl))))
end
/-- a control block -/
structure Fcb where
  nm : List Int
  ex : Int
  chg : Bool
  rc : Int
  al : List Int
  cr : Int
noncomputable def Fcb.s2 (f : Fcb) : Int := if f.chg then 0 else 128
noncomputable def Fcb.oct (f : Fcb) : List Int := [0] ++ f.nm ++ [f.ex, 0, f.s2, f.rc] ++ f.al ++ [f.cr, 0, 0, 0]
noncomputable def Byte (x : Int) : Prop := 0 ≤ x ∧ x < 256
structure Fcb.Ok (f : Fcb) : Prop where
  nm : f.nm.length = 11
  al : f.al.length = 16
  ex : 0 ≤ f.ex ∧ f.ex < 32
  rc : Byte f.rc
  cr : Byte f.cr
  alb : ∀ x ∈ f.al, Byte x
theorem list16E {α : Type} {P : List α → Prop} {l : List α} (h : l.length = 16) (z : ∀ a0 a1 a2 a3 a4 a5 a6 a7 a8 a9 b0 b1 b2 b3 b4 b5, P [a0, a1, a2, a3, a4, a5, a6, a7, a8, a9, b0, b1, b2, b3, b4, b5]) : P l :=
  consE (P := P) h fun a0 _ h => consE (P := fun t => P (a0 :: t)) h fun a1 _ h => consE (P := fun t => P (a0 :: a1 :: t)) h fun a2 _ h => consE (P := fun t => P (a0 :: a1 :: a2 :: t)) h fun a3 _ h => consE (P := fun t => P (a0 :: a1 :: a2 :: a3 :: t)) h fun a4 _ h => consE (P := fun t => P (a0 :: a1 :: a2 :: a3 :: a4 :: t)) h fun a5 _ h => consE (P := fun t => P (a0 :: a1 :: a2 :: a3 :: a4 :: a5 :: t)) h fun a6 _ h => consE (P := fun t => P (a0 :: a1 :: a2 :: a3 :: a4 :: a5 :: a6 :: t)) h fun a7 _ h => consE (P := fun t => P (a0 :: a1 :: a2 :: a3 :: a4 :: a5 :: a6 :: a7 :: t)) h fun a8 _ h => consE (P := fun t => P (a0 :: a1 :: a2 :: a3 :: a4 :: a5 :: a6 :: a7 :: a8 :: t)) h fun a9 _ h => consE (P := fun t => P (a0 :: a1 :: a2 :: a3 :: a4 :: a5 :: a6 :: a7 :: a8 :: a9 :: t)) h fun b0 _ h => consE (P := fun t => P (a0 :: a1 :: a2 :: a3 :: a4 :: a5 :: a6 :: a7 :: a8 :: a9 :: b0 :: t)) h fun b1 _ h => consE (P := fun t => P (a0 :: a1 :: a2 :: a3 :: a4 :: a5 :: a6 :: a7 :: a8 :: a9 :: b0 :: b1 :: t)) h fun b2 _ h => consE (P := fun t => P (a0 :: a1 :: a2 :: a3 :: a4 :: a5 :: a6 :: a7 :: a8 :: a9 :: b0 :: b1 :: b2 :: t)) h fun b3 _ h => consE (P := fun t => P (a0 :: a1 :: a2 :: a3 :: a4 :: a5 :: a6 :: a7 :: a8 :: a9 :: b0 :: b1 :: b2 :: b3 :: t)) h fun b4 _ h => consE (P := fun t => P (a0 :: a1 :: a2 :: a3 :: a4 :: a5 :: a6 :: a7 :: a8 :: a9 :: b0 :: b1 :: b2 :: b3 :: b4 :: t)) h fun b5 _ h => nilE (P := fun t => P (a0 :: a1 :: a2 :: a3 :: a4 :: a5 :: a6 :: a7 :: a8 :: a9 :: b0 :: b1 :: b2 :: b3 :: b4 :: b5 :: t)) h (z a0 a1 a2 a3 a4 a5 a6 a7 a8 a9 b0 b1 b2 b3 b4 b5)
theorem and255 {x : Int} (h : Byte x) : Builtin.bitAnd x 255 = x := by
  obtain ⟨k, rfl⟩ := Int.eq_ofNat_of_zero_le h.1
  have hk : k < 256 := by have := h.2; lia
  have : ∀ k : Fin 256, Builtin.bitAnd (Int.ofNat k.1) 255 = Int.ofNat k.1 := by decide +kernel
  exact this ⟨k, hk⟩
theorem andFFFF {x : Int} (h : Byte x) : Builtin.bitAnd x 65535 = x := by
  obtain ⟨k, rfl⟩ := Int.eq_ofNat_of_zero_le h.1
  have hk : k < 256 := by have := h.2; lia
  have : ∀ k : Fin 256, Builtin.bitAnd (Int.ofNat k.1) 65535 = Int.ofNat k.1 := by decide +kernel
  exact this ⟨k, hk⟩
theorem and31 {x : Int} (h : 0 ≤ x ∧ x < 32) : Builtin.bitAnd x 31 = x := by
  obtain ⟨k, rfl⟩ := Int.eq_ofNat_of_zero_le h.1
  have hk : k < 32 := by have := h.2; lia
  have : ∀ k : Fin 32, Builtin.bitAnd (Int.ofNat k.1) 31 = Int.ofNat k.1 := by decide +kernel
  exact this ⟨k, hk⟩
theorem pre_get {a b r : List Int} {i : Nat} (h : i < b.length) : (a ++ (b ++ r))[a.length + i]? = b[i]? := by
  rw [List.getElem?_append_right (Nat.le_add_right _ _), Nat.add_sub_cancel_left, List.getElem?_append_left h]
theorem pre_cut2 {a b r : List Int} {i k : Nat} (h : i + k ≤ b.length) : ((a ++ (b ++ r)).drop (a.length + i)).take k = (b.drop i).take k := by
  rw [pre_cut, List.drop_append_of_le_length (by lia), List.take_append_of_le_length (by rw [List.length_drop]; lia)]
theorem pre_set {a b r : List Int} {i : Nat} {v : Int} (h : i < b.length) : (a ++ (b ++ r)).set (a.length + i) v = a ++ (b.set i v ++ r) := by
  rw [List.set_append_right _ _ (Nat.le_add_right _ _), Nat.add_sub_cancel_left, List.set_append_left _ _ h]
theorem pre_splice2 {a b r y : List Int} {i : Nat} (h : i + y.length ≤ b.length) : splice (a ++ (b ++ r)) (a.length + i) y = a ++ (splice b i y ++ r) := by
  rw [pre_splice]
  unfold splice
  rw [List.take_append_of_le_length (by lia), List.drop_append_of_le_length (by lia)]
  simp
structure FGet (f : Fcb) : Prop where
  len : f.oct.length = 36
  g12 : f.oct[12]? = some f.ex
  g14 : f.oct[14]? = some f.s2
  g15 : f.oct[15]? = some f.rc
  g32 : f.oct[32]? = some f.cr
  name : (f.oct.drop 1).take 11 = f.nm
  map : (f.oct.take 32).drop 16 = f.al
  s12 : ∀ v, f.oct.set 12 v = { f with ex := v }.oct
  s14 : ∀ b, f.oct.set 14 (if b then 0 else 128) = { f with chg := b }.oct
  s15 : ∀ v, f.oct.set 15 v = { f with rc := v }.oct
  s32 : ∀ v, f.oct.set 32 v = { f with cr := v }.oct
  p13 : splice f.oct 13 [0] = f.oct
  p14 : splice f.oct 14 [0] = { f with chg := true }.oct
  p15 : splice f.oct 15 (0 :: List.replicate 16 0) = { f with rc := 0, al := List.replicate 16 0 }.oct
  p16 : ∀ ys : List Int, ys.length = 16 → splice f.oct 16 ys = { f with al := ys }.oct
theorem Fcb.Ok.get {f : Fcb} (h : f.Ok) : FGet f := by
  obtain ⟨nm, ex, chg, rc, al, cr⟩ := f
  refine list11E (P := fun r => FGet ⟨r, ex, chg, rc, al, cr⟩) h.nm fun a b d e f g i j k p q => ?_
  refine list16E (P := fun r => FGet ⟨_, ex, chg, rc, r, cr⟩) h.al fun a0 a1 a2 a3 a4 a5 a6 a7 a8 a9 b0 b1 b2 b3 b4 b5 => ?_
  refine ⟨rfl, rfl, rfl, rfl, rfl, rfl, rfl, fun _ => rfl, fun _ => rfl, fun _ => rfl, fun _ => rfl, rfl, rfl, rfl, fun ys hy => ?_⟩
  exact list16E (P := fun ys => splice _ 16 ys = Fcb.oct (Fcb.mk _ _ _ _ ys _)) hy fun a0 a1 a2 a3 a4 a5 a6 a7 a8 a9 b0 b1 b2 b3 b4 b5 => rfl
set_option maxRecDepth 100000
set_option maxHeartbeats 4000000
section
variable {c : Cx} {n : Nat} {sc : Scope} {σ σ' Z : Hp} {m m' : Lm} {ms : List Int} {me : Addr}
theorem c_peek {a : Nat} {v : Int} {Q : AV → Hp → Prop} (hm : (me, .list (aints ms)) ∈ σ) (hl : ms.length = 128) (hv : ms[a]? = some v) (h : Q (.int v) σ) : TC c (n + 1) (.glob "peek") [.ref me, .int a] σ Q := by
  have ha : a < 128 := by rw [← hl]; exact (List.getElem?_eq_some_iff.mp hv).1
  refine t_fn ["memory", "at"] (f' := "peek") rfl (fun pm code doc vs hv => by obtain ⟨a0, a1, rfl⟩ := len2 hv; rfl) rfl rfl fun hn => ?_
  repeat tb_rel
  refine f_len hm ?_ (by simp [aints, hl])
  rw [show ((aints ms).length : Int) = 128 by simp [aints, hl]]
  refine b_mod (by decide) ?_
  rw [show Int.fmod a 128 = (a : Int) by rw [Int.fmod_eq_emod_of_nonneg _ (by decide)]; lia]
  refine i_int hm (by rw [Int.toNat_natCast]; exact hv) ?_ (by lia) (by lia)
  repeat tb_rel
  exact rr (by k_caught0) h
theorem c_poke {a : Nat} {v w : Int} {Q : AV → Hp → Prop} (hl : ms.length = 128) (ha : a < 128) (hw : Builtin.bitAnd v 255 = w)
    (hu : Mine.Upd σ me (.list (aints ms)) (.list (aints (ms.set a w))) σ') (h : Q .none σ') : TC c (n + 1) (.glob "poke") [.ref me, .int a, .int v] σ Q := by
  have hm := hu.mem
  refine t_fn ["memory", "at", "octet"] (f' := "poke") rfl (fun pm code doc vs hv => by obtain ⟨a0, a1, a2, rfl⟩ := len3 hv; rfl) rfl rfl fun hn => ?_
  repeat tb_rel
  refine f_len hm ?_ (by simp [aints, hl])
  rw [show ((aints ms).length : Int) = 128 by simp [aints, hl]]
  refine b_mod (by decide) ?_
  rw [show Int.fmod a 128 = (a : Int) by rw [Int.fmod_eq_emod_of_nonneg _ (by decide)]; lia, hw]
  refine set_list (xs := aints ms) (by rw [Int.toNat_natCast, aints_set]; exact hu) (by lia) (by simp [aints, hl]; lia) (by simp [aints, hl]) ?_
  repeat tb_rel
  exact rn (by k_caught0) h
theorem c_octets_at {a k : Nat} {Q : AV → Hp → Prop} (hm : (me, .list (aints ms)) ∈ σ) (hl : ms.length = 128) (hk : a + k ≤ 128) (h : ∀ D, Q (.ref D) ((D, .list (aints ((ms.drop a).take k))) :: σ)) :
    TC c (n + 2) (.glob "octets_at") [.ref me, .int a, .int k] σ Q := by
  refine t_fn ["memory", "at", "many"] (f' := "octets_at") rfl (fun pm code doc vs hv => by obtain ⟨a0, a1, a2, rfl⟩ := len3 hv; rfl) rfl rfl fun hn => ?_
  refine s_cons (x_ret (t_comp (TIt.range ?_ (by top_args) (by top_args)) (by top_args)))
  repeat tb_rel
  refine ⟨k, rfl, by lia, fun i τ acc => τ = σ ∧ acc = aints ((ms.drop a).take i), ⟨rfl, by simp [aints]⟩, by rw [upto_len]; lia, ?_, ?_⟩
  · rintro i iv τ acc hi ⟨rfl, rfl⟩
    obtain ⟨hk', rfl⟩ := upto_get hi
    have hv : ms[a + i]? = some (ms[a + i]'(by lia)) := List.getElem?_eq_getElem _
    repeat tb_rel
    rw [andFFFF ⟨by lia, by lia⟩, show (a : Int) + i = ((a + i : Nat) : Int) by lia]
    refine c_peek hm hl hv ?_
    refine ⟨rfl, ?_⟩
    rw [List.take_add_one, List.getElem?_drop, hv]; simp [aints]
  · rintro τ acc ⟨rfl, rfl⟩ D
    rw [upto_len]
    exact rr .refl (h D)
theorem c_put_octets {a : Nat} {o : Addr} {ys : List Int} {Q : AV → Hp → Prop} (ho : (o, .list (aints ys)) ∈ σ) (hl : ms.length = 128) (ha : a + ys.length ≤ 128) (hn : ys.length < 128) (hb : ∀ y ∈ ys, Byte y)
    (hu : Mine.Upd σ me (.list (aints ms)) (.list (aints (splice ms a ys))) σ') (h : Q .none σ') : TC c (n + 2) (.glob "put_octets") [.ref me, .int a, .ref o] σ Q := by
  refine TC.upd hu h fun σr hm hnd => ?_
  have h3 := hm _ ho (by simp only [ne_eq, AO.list.injEq]; intro e; have := congrArg List.length e; simp [aints, hl] at this; lia)
  clear hm
  refine t_fn ["memory", "at", "octets"] (f' := "put_octets") rfl (fun pm code doc vs hv => by obtain ⟨a0, a1, a2, rfl⟩ := len3 hv; rfl) rfl rfl fun hn => ?_
  obtain ⟨σ0, hp⟩ := Pick.exists h3
  refine s_cons (x_for (TIt.enum (t_name rfl ⟨_, _, _, rfl, .tail hp, fun i τ => τ = (me, .list (aints (splice ms a (ys.take i)))) :: σ0, wk0 (by simp [splice_nil]), ?_, ?_⟩) (by top_args) (by top_args)))
  · rintro i iv σi hi rfl
    obtain ⟨x, e1, rfl⟩ := enumL_get hi
    obtain ⟨v, e2, rfl⟩ := aints_get e1
    have hi' := (List.getElem?_eq_some_iff.mp e2).1
    repeat tb_rel
    rw [andFFFF ⟨by lia, by lia⟩, show (a : Int) + i = ((a + i : Nat) : Int) by lia]
    refine c_poke (ms := splice ms a (ys.take i)) (by rw [splice_len (by simp; lia), hl]) (by lia) (and255 (hb v (List.mem_of_getElem? e2))) .head ?_
    repeat tb_rel
    refine en .refl (has2 rfl rfl) ?_
    show _ = _
    rw [splice_snoc e2 (by lia)]
  · rintro σi rfl
    rw [enumL_len, show (aints ys).length = ys.length by simp [aints], List.take_length]
    refine wk (σ' := (me, .list (aints (splice ms a ys))) :: σr) ?_ ?_
    · refine Less.trans ((Less.perm hp.perm.symm).both) ?_
      dsimp only [List.cons_append, List.nil_append]
      k_caught0
    repeat tb_rel
    exact rn .refl ⟨rfl, rfl⟩
/-! a control block in memory -/
variable {pre post : List Int} {f : Fcb}
structure FAt (pre post : List Int) (f : Fcb) : Prop extends f.Ok where
  total : pre.length + 36 + post.length = 128
noncomputable def mm (pre post : List Int) (f : Fcb) : List Int := pre ++ (f.oct ++ post)
theorem FAt.len (h : FAt pre post f) : (mm pre post f).length = 128 := by
  have := h.toOk.get.len
  have := h.total
  simp [mm]; lia
theorem FAt.at (h : FAt pre post f) {i : Nat} {v : Int} (hi : i < 36) (hv : f.oct[i]? = some v) : (mm pre post f)[pre.length + i]? = some v := by
  unfold mm
  rw [pre_get (by rw [h.toOk.get.len]; exact hi), hv]
theorem c_name_at {Q : AV → Hp → Prop} (hm : (me, .list (aints (mm pre post f))) ∈ σ) (hF : FAt pre post f) (h : ∀ D, Q (.ref D) ((D, .list (aints f.nm)) :: σ)) :
    TC c (n + 3) (.glob "name_at") [.ref me, .int pre.length] σ Q := by
  refine t_fn ["memory", "at"] (f' := "name_at") rfl (fun pm code doc vs hv => by obtain ⟨a0, a1, rfl⟩ := len2 hv; rfl) rfl rfl fun hn => ?_
  repeat tb_rel
  have ht := hF.total
  refine c_octets_at (a := pre.length + 1) (k := 11) hm hF.len (by lia) fun D => ?_
  have e : ((mm pre post f).drop (pre.length + 1)).take 11 = f.nm := by
    unfold mm
    rw [pre_cut2 (by rw [hF.toOk.get.len]; decide), hF.toOk.get.name]
  rw [e]
  exact rr (by k_caught0) (h D)
theorem c_extent_at {Q : AV → Hp → Prop} (hm : (me, .list (aints (mm pre post f))) ∈ σ) (hF : FAt pre post f) (h : Q (.int f.ex) σ) :
    TC c (n + 2) (.glob "extent_at") [.ref me, .int pre.length] σ Q := by
  have G := hF.toOk.get
  refine t_fn ["memory", "at"] (f' := "extent_at") rfl (fun pm code doc vs hv => by obtain ⟨a0, a1, rfl⟩ := len2 hv; rfl) rfl rfl fun hn => ?_
  repeat tb_rel
  refine c_peek (a := pre.length + 14) hm hF.len (hF.at (by decide) G.g14) ?_
  repeat tb_rel
  refine c_peek (a := pre.length + 12) hm hF.len (hF.at (by decide) G.g12) ?_
  repeat tb_rel
  rw [and31 hF.ex, show Builtin.bitAnd f.s2 63 = 0 by unfold Fcb.s2; cases f.chg <;> decide]
  exact rr (by k_caught0) (q_int h (by lia))
theorem c_is_changed {Q : AV → Hp → Prop} (hm : (me, .list (aints (mm pre post f))) ∈ σ) (hF : FAt pre post f) (h : Q (.bool f.chg) σ) :
    TC c (n + 2) (.glob "is_changed") [.ref me, .int pre.length] σ Q := by
  have G := hF.toOk.get
  refine t_fn ["memory", "at"] (f' := "is_changed") rfl (fun pm code doc vs hv => by obtain ⟨a0, a1, rfl⟩ := len2 hv; rfl) rfl rfl fun hn => ?_
  repeat tb_rel
  refine c_peek (a := pre.length + 14) hm hF.len (hF.at (by decide) G.g14) ?_
  repeat tb_rel
  rw [show (Builtin.bitAnd f.s2 128 == 0) = f.chg by unfold Fcb.s2; cases f.chg <;> decide]
  exact rr (by k_caught0) h
theorem c_count_at {Q : AV → Hp → Prop} (hm : (me, .list (aints (mm pre post f))) ∈ σ) (hF : FAt pre post f) (h : Q (.int f.rc) σ) :
    TC c (n + 2) (.glob "count_at") [.ref me, .int pre.length] σ Q := by
  refine t_fn ["memory", "at"] (f' := "count_at") rfl (fun pm code doc vs hv => by obtain ⟨a0, a1, rfl⟩ := len2 hv; rfl) rfl rfl fun hn => ?_
  repeat tb_rel
  refine c_peek (a := pre.length + 15) hm hF.len (hF.at (by decide) hF.toOk.get.g15) ?_
  exact rr (by k_caught0) h
theorem c_current_at {Q : AV → Hp → Prop} (hm : (me, .list (aints (mm pre post f))) ∈ σ) (hF : FAt pre post f) (h : Q (.int f.cr) σ) :
    TC c (n + 2) (.glob "current_at") [.ref me, .int pre.length] σ Q := by
  refine t_fn ["memory", "at"] (f' := "current_at") rfl (fun pm code doc vs hv => by obtain ⟨a0, a1, rfl⟩ := len2 hv; rfl) rfl rfl fun hn => ?_
  repeat tb_rel
  refine c_peek (a := pre.length + 32) hm hF.len (hF.at (by decide) hF.toOk.get.g32) ?_
  exact rr (by k_caught0) h
theorem mm_set {f' : Fcb} {i : Nat} {v : Int} (hF : FAt pre post f) (hi : i < 36) (h : f.oct.set i v = f'.oct) : (mm pre post f).set (pre.length + i) v = mm pre post f' := by
  unfold mm
  rw [pre_set (by rw [hF.toOk.get.len]; exact hi), h]
theorem mm_splice {f' : Fcb} {i : Nat} {ys : List Int} (hF : FAt pre post f) (hi : i + ys.length ≤ 36) (h : splice f.oct i ys = f'.oct) : splice (mm pre post f) (pre.length + i) ys = mm pre post f' := by
  unfold mm
  rw [pre_splice2 (by rw [hF.toOk.get.len]; exact hi), h]
theorem c_mark_changed {b : Bool} {Q : AV → Hp → Prop} (hF : FAt pre post f)
    (hu : Mine.Upd σ me (.list (aints (mm pre post f))) (.list (aints (mm pre post { f with chg := b }))) σ') (h : Q .none σ') : TC c (n + 2) (.glob "mark_changed") [.ref me, .int pre.length, .bool b] σ Q := by
  have hm := hu.mem
  have ht := hF.total
  rw [← mm_set (i := 14) hF (by decide) (hF.toOk.get.s14 b)] at hu
  refine t_fn ["memory", "at", "is_now"] (f' := "mark_changed") rfl (fun pm code doc vs hv => by obtain ⟨a0, a1, a2, rfl⟩ := len3 hv; rfl) rfl rfl fun hn => ?_
  repeat tb_rel
  refine c_peek (a := pre.length + 14) hm hF.len (hF.at (by decide) hF.toOk.get.g14) ?_
  repeat tb_rel
  rw [show Builtin.bitAnd f.s2 127 = 0 by unfold Fcb.s2; cases f.chg <;> decide]
  cases b with
  | true =>
    refine br_t rfl ?_
    repeat tb_rel
    refine c_poke (a := pre.length + 14) (w := 0) hF.len (by lia) (by decide) hu ?_
    repeat tb_rel
    exact rn (by k_caught0) h
  | false =>
    refine br_f rfl ?_
    repeat tb_rel
    refine c_poke (a := pre.length + 14) (w := 128) hF.len (by lia) (by decide) hu ?_
    repeat tb_rel
    exact rn (by k_caught0) h
theorem c_set_count {v : Int} {Q : AV → Hp → Prop} (hF : FAt pre post f) (hv : Byte v)
    (hu : Mine.Upd σ me (.list (aints (mm pre post f))) (.list (aints (mm pre post { f with rc := v }))) σ') (h : Q .none σ') : TC c (n + 2) (.glob "set_count") [.ref me, .int pre.length, .int v] σ Q := by
  have ht := hF.total
  rw [← mm_set (i := 15) hF (by decide) (hF.toOk.get.s15 v)] at hu
  refine t_fn ["memory", "at", "count"] (f' := "set_count") rfl (fun pm code doc vs hv => by obtain ⟨a0, a1, a2, rfl⟩ := len3 hv; rfl) rfl rfl fun hn => ?_
  repeat tb_rel
  refine c_poke (a := pre.length + 15) hF.len (by lia) (and255 hv) hu ?_
  repeat tb_rel
  exact rn (by k_caught0) h
theorem c_set_current {v : Int} {Q : AV → Hp → Prop} (hF : FAt pre post f) (hv : Byte v)
    (hu : Mine.Upd σ me (.list (aints (mm pre post f))) (.list (aints (mm pre post { f with cr := v }))) σ') (h : Q .none σ') : TC c (n + 2) (.glob "set_current") [.ref me, .int pre.length, .int v] σ Q := by
  have ht := hF.total
  rw [← mm_set (i := 32) hF (by decide) (hF.toOk.get.s32 v)] at hu
  refine t_fn ["memory", "at", "record"] (f' := "set_current") rfl (fun pm code doc vs hv => by obtain ⟨a0, a1, a2, rfl⟩ := len3 hv; rfl) rfl rfl fun hn => ?_
  repeat tb_rel
  refine c_poke (a := pre.length + 32) hF.len (by lia) (and255 hv) hu ?_
  repeat tb_rel
  exact rn (by k_caught0) h
end
set_option maxRecDepth 100000
set_option maxHeartbeats 4000000
section
variable {c : Cx} {n : Nat} {sc : Scope} {σ σ' Z : Hp} {m m' : Lm} {ms : List Int} {me : Addr}
variable {pre post : List Int} {f : Fcb}
theorem c_blocks_at {d dx g dt : Addr} {Q : AV → Hp → Prop} (hd : Dk c σ d dx g dt) (hm : (me, .list (aints (mm pre post f))) ∈ σ) (hF : FAt pre post f) (h : ∀ D, Q (.ref D) ((D, .list (aints f.al)) :: σ)) :
    TC c (n + 3) (.glob "blocks_at") [.ref d, .ref me, .int pre.length] σ Q := by
  have ht := hF.total
  refine t_fn ["disk", "memory", "at"] (f' := "blocks_at") rfl (fun pm code doc vs hv => by obtain ⟨a0, a1, a2, rfl⟩ := len3 hv; rfl) rfl rfl fun hn => ?_
  repeat tb_rel
  refine c_octets_at (a := pre.length) (k := 32) hm hF.len (by lia) fun D => ?_
  have e : ((mm pre post f).drop pre.length).take 32 = f.oct.take 32 := by
    have := pre_cut2 (a := pre) (b := f.oct) (r := post) (i := 0) (k := 32) (by rw [hF.toOk.get.len]; decide)
    exact this
  rw [e]
  repeat tb_rel
  refine c_map_of (hd.up (by top_caught0)) mem_hd (by rw [List.length_take, hF.toOk.get.len]; decide) fun M => ?_
  rw [hF.toOk.get.map]
  exact rr (by k_caught0) (h M)
theorem FAt.sal {ys : List Int} (h : FAt pre post f) (hy : ys.length = 16) (hb : ∀ y ∈ ys, Byte y) : FAt pre post { f with al := ys } := ⟨⟨h.nm, hy, h.ex, h.rc, h.cr, hb⟩, h.total⟩
theorem FAt.sex {e : Int} (h : FAt pre post f) (he : 0 ≤ e ∧ e < 32) : FAt pre post { f with ex := e } := ⟨⟨h.nm, h.al, he, h.rc, h.cr, h.alb⟩, h.total⟩
theorem FAt.schg {b : Bool} (h : FAt pre post f) : FAt pre post { f with chg := b } := ⟨⟨h.nm, h.al, h.ex, h.rc, h.cr, h.alb⟩, h.total⟩
theorem FAt.src {v : Int} (h : FAt pre post f) (hv : Byte v) : FAt pre post { f with rc := v } := ⟨⟨h.nm, h.al, h.ex, hv, h.cr, h.alb⟩, h.total⟩
theorem set_bytes {xs : List Int} {i : Nat} {v : Int} (h : ∀ x ∈ xs, Byte x) (hv : Byte v) : ∀ x ∈ xs.set i v, Byte x := fun x hx => by
  rcases List.mem_or_eq_of_mem_set hx with q | q
  · exact h x q
  · rw [q]; exact hv
theorem c_set_block {d dx g dt : Addr} {s : Nat} {b : Int} {Q : AV → Hp → Prop} (hd : Dk c σ d dx g dt) (hF : FAt pre post f) (hs : s < 16) (hb : Byte b)
    (hu : Mine.Upd σ me (.list (aints (mm pre post f))) (.list (aints (mm pre post { f with al := f.al.set s b }))) σ') (h : Q .none σ') :
    TC c (n + 4) (.glob "set_block") [.ref d, .ref me, .int pre.length, .int s, .int b] σ Q := by
  have ht := hF.total
  have hm := hu.mem
  have hal := hF.al
  rw [← mm_splice (i := 16) hF (by simp [hF.al]) (hF.toOk.get.p16 (f.al.set s b) (by simp [hF.al]))] at hu
  refine t_fn ["disk", "memory", "at", "slot", "block"] (f' := "set_block") rfl (fun pm code doc vs hv => by obtain ⟨a0, a1, a2, a3, a4, rfl⟩ := len5 hv; rfl) rfl rfl fun hn => ?_
  repeat tb_rel
  refine c_blocks_at hd hm hF fun D => ?_
  repeat tb_rel
  refine set_list (xs := aints f.al) (by top_raise0) (by lia) (by simp [aints, hF.al]; lia) (by simp [aints, hF.al]) ?_
  rw [aints_set, Int.toNat_natCast]
  repeat tb_rel
  refine c_map_octets (hd.up (by top_caught0)) mem_hd (by simp [aints, hF.al]) fun M => ?_
  repeat tb_rel
  refine c_put_octets (a := pre.length + 16) mem_hd hF.len (by simp [hF.al]; lia) (by simp [hF.al]) (set_bytes hF.alb hb) (.tail (.tail hu)) ?_
  repeat tb_rel
  exact rn (by k_caught0) h
theorem c_set_extent {e : Int} {Q : AV → Hp → Prop} (hF : FAt pre post f) (he : 0 ≤ e ∧ e < 32)
    (hu : Mine.Upd σ me (.list (aints (mm pre post f))) (.list (aints (mm pre post { f with ex := e, chg := false }))) σ') (h : Q .none σ') : TC c (n + 2) (.glob "set_extent") [.ref me, .int pre.length, .int e] σ Q := by
  have ht := hF.total
  refine TC.upd hu h fun σr _ hnd => ?_
  refine t_fn ["memory", "at", "extent"] (f' := "set_extent") rfl (fun pm code doc vs hv => by obtain ⟨a0, a1, a2, rfl⟩ := len3 hv; rfl) rfl rfl fun hn => ?_
  repeat tb_rel
  refine c_poke (a := pre.length + 12) (w := e) hF.len (by lia) (by rw [Int.fmod_eq_emod_of_nonneg _ (by decide), show e % 32 = e by lia]; exact and255 ⟨by lia, by lia⟩) .head ?_
  rw [mm_set hF (by decide) (hF.toOk.get.s12 e)]
  repeat tb_rel
  have hF2 := hF.sex he
  refine c_poke (a := pre.length + 14) (w := 128) hF2.len (by lia) (by rw [Int.fdiv_eq_ediv_of_nonneg _ (by decide), show e / 32 = 0 by lia]; decide) .head ?_
  rw [mm_set (i := 14) (v := 128) hF2 (by decide) (hF2.toOk.get.s14 false)]
  repeat tb_rel
  exact rn .refl ⟨rfl, rfl⟩
theorem c_begin_extent {e : Int} {Q : AV → Hp → Prop} (hF : FAt pre post f) (he : 0 ≤ e ∧ e < 32)
    (hu : Mine.Upd σ me (.list (aints (mm pre post f))) (.list (aints (mm pre post { f with ex := e, chg := false, rc := 0, al := zeros 16 }))) σ') (h : Q .none σ') : TC c (n + 3) (.glob "begin_extent") [.ref me, .int pre.length, .int e] σ Q := by
  have ht := hF.total
  refine TC.upd hu h fun σr _ hnd => ?_
  refine t_fn ["memory", "at", "extent"] (f' := "begin_extent") rfl (fun pm code doc vs hv => by obtain ⟨a0, a1, a2, rfl⟩ := len3 hv; rfl) rfl rfl fun hn => ?_
  repeat tb_rel
  refine c_set_extent hF he .head ?_
  repeat tb_rel
  have hF2 : FAt pre post { f with ex := e, chg := false } := (hF.sex he).schg
  refine c_put_octets (a := pre.length + 13) (ys := [0]) mem_hd hF2.len (by simp; lia) (by decide) (by simp [Byte]) (.tail .head) ?_
  rw [mm_splice hF2 (by decide) hF2.toOk.get.p13]
  repeat tb_rel
  refine c_put_octets (a := pre.length + 15) (ys := 0 :: List.replicate 16 0) mem_hd hF2.len (by simp; lia) (by decide) (by simp [Byte]) (by top_raise0) ?_
  rw [mm_splice hF2 (by decide) hF2.toOk.get.p15]
  repeat tb_rel
  exact rn (σ' := (me, .list (aints (mm pre post { f with ex := e, chg := false, rc := 0, al := zeros 16 }))) :: σr) (.drop (.drop (.drop .refl))) ⟨rfl, rfl⟩
theorem c_new_fcb {o : Addr} {nm : List Int} {Q : AV → Hp → Prop} (ho : (o, .list (aints nm)) ∈ σ) (hl : nm.length = 11) (h : ∀ D, Q (.ref D) ((D, .list (aints (Fcb.mk nm 0 true 0 (zeros 16) 0).oct)) :: σ)) :
    TC c (n + 1) (.glob "new_fcb") [.int 0, .ref o] σ Q := by
  refine t_fn ["drive", "name"] (f' := "new_fcb") rfl (fun pm code doc vs hv => by obtain ⟨a0, a1, rfl⟩ := len2 hv; rfl) rfl rfl fun hn => ?_
  repeat tb_rel
  refine b_addl (by boot_fact) (by boot_fact) ?_ (by simp [aints, hl])
  repeat tb_rel
  refine b_addl (by boot_fact) (by boot_fact) ?_ (by simp [aints, hl])
  repeat tb_rel
  rename_i D
  have e1 : [AV.int 0] ++ aints nm ++ (List.replicate (Int.toNat (36 - 1 - 11)) [AV.int 0]).flatten = aints (Fcb.mk nm 0 true 0 (zeros 16) 0).oct := by
    simp [aints, Fcb.oct, Fcb.s2, zeros]
  rw [e1]
  exact rr (by k_caught0) (h _)
end
set_option maxRecDepth 100000
set_option maxHeartbeats 4000000
section
variable {c : Cx} {n : Nat} {sc : Scope} {σ σ' Z : Hp} {m m' : Lm} {ss : List (Option En)} {bs : List (List Int)}
noncomputable def sameB (a b : Int) : Bool := Builtin.bitAnd a 127 == 63 || Builtin.bitAnd a 127 == Builtin.bitAnd b 127
noncomputable def matchL (p r : List Int) : List Bool := (p.zip r).map fun x => sameB x.1 x.2
noncomputable def matchB (p r : List Int) : Bool := (matchL p r).all id
theorem zip_take {α β : Type} {xs : List α} {ys : List β} {i : Nat} {a : α} {b : β} (h1 : xs[i]? = some a) (h2 : ys[i]? = some b) : (xs.zip ys)[i]? = some (a, b) := by
  rw [List.getElem?_zip_eq_some]; exact ⟨h1, h2⟩
theorem c_matches {p r : Addr} {ps rs : List Int} {Q : AV → Hp → Prop} (hp : (p, .list (aints ps)) ∈ σ) (hl : ps.length ≤ 100000) (h : Q (.bool (matchB ps rs)) ((r, .list (aints rs)) :: σ)) :
    TC c (n + 1) (.glob "matches") [.ref p, .ref r] ((r, .list (aints rs)) :: σ) Q := by
  refine t_fn ["pattern", "raw"] (f' := "matches") rfl (fun pm code doc vs hv => by obtain ⟨a0, a1, rfl⟩ := len2 hv; rfl) rfl rfl fun hn => ?_
  repeat tb_rel
  obtain ⟨σ0, hp1⟩ := Pick.exists hp
  refine t_comp (TIt.zip ?_ (by top_args) (by top_args)) (by top_args)
  repeat tb_rel
  refine ⟨p, _, r, _, _, _, rfl, rfl, .tail hp1, .head, fun i τ acc => τ = σ0 ∧ acc = abools ((matchL ps rs).take i), ⟨rfl, rfl⟩, by simp [zipL, aints]; lia, ?_, ?_⟩
  · rintro i iv τ acc hi ⟨rfl, rfl⟩
    obtain ⟨a, b, ha, hb, rfl⟩ := zipL_get hi
    obtain ⟨x, hx, rfl⟩ := aints_get ha
    obtain ⟨y, hy, rfl⟩ := aints_get hb
    have hz : (matchL ps rs)[i]? = some (sameB x y) := by unfold matchL; rw [List.getElem?_map, zip_take hx hy]; rfl
    have fin : ∀ b, sameB x y = b → τ = τ ∧ abools ((matchL ps rs).take i) ++ [.bool b] = abools ((matchL ps rs).take (i + 1)) := fun b hb => ⟨rfl, by rw [List.take_add_one, hz, hb]; simp [abools]⟩
    repeat tb_rel
    refine t_or ?_
    repeat tb_rel
    unfold sameB at fin
    cases q : (Builtin.bitAnd x 127 == 63) with
    | true => refine br_t rfl ?_; exact fin true (by rw [q]; rfl)
    | false =>
      refine br_f rfl ?_
      repeat tb_rel
      exact fin _ (by rw [q]; rfl)
  · rintro τ acc ⟨rfl, rfl⟩ D
    rw [show (zipL (aints ps) (aints rs)).length = (matchL ps rs).length by simp [zipL, aints, matchL], List.take_length]
    dsimp only [List.cons_append, List.nil_append]
    repeat tb_rel
    refine f_all mem_hd ?_
    refine rr ?_ h
    exact .drop (.perm ((List.Perm.swap _ _ _).trans (hp1.perm.cons _)).symm)
noncomputable def hitB (u : Int) (pat : List Int) (e : En) : Bool := e.user == u && matchB pat e.raw
noncomputable def findN (ss : List (Option En)) (u : Int) (pat : List Int) : Nat → List (Nat × En)
  | 0 => []
  | i + 1 => findN ss u pat i ++ (match ss[i]? with | some (some e) => if hitB u pat e = true then [(i, e)] else [] | _ => [])
noncomputable def findP (ss : List (Option En)) (u : Int) (pat : List Int) : List (Nat × En) := findN ss u pat 4
theorem find_mem {u : Int} {pat : List Int} {i k : Nat} {e : En} (h : (k, e) ∈ findN ss u pat i) : ss[k]? = some (some e) ∧ k < i := by
  induction i with
  | zero => cases h
  | succ i ih =>
    unfold findN at h
    rcases List.mem_append.mp h with h | h
    · exact ⟨(ih h).1, Nat.lt_succ_of_lt (ih h).2⟩
    · split at h
      · rename_i e' he'
        split at h
        · cases List.mem_singleton.mp h
          exact ⟨he', Nat.lt_succ_self _⟩
        · cases h
      · cases h
theorem findN_len {u : Int} {pat : List Int} {i : Nat} : (findN ss u pat i).length ≤ i := by
  induction i with
  | zero => exact Nat.le_refl _
  | succ i ih =>
    unfold findN
    rw [List.length_append]
    split
    · split <;> simp <;> lia
    · simp; lia
theorem c_find {d dx g dt p : Addr} {u : Int} {pat : List Int} {Q : AV → Hp → Prop} (hd : Dk c σ d dx g dt) (hx : (dt, .list (aints (dat ss bs))) ∈ σ) (hs : Da ss bs) (hp : (p, .list (aints pat)) ∈ σ) (hpl : pat.length = 11) (hu : u ≠ 229)
    (h : ∀ D us τ, Prs c (findP ss u pat) us τ → Q (.ref D) ((D, .list us) :: (τ ++ σ))) : TC c (n + 4) (.glob "find") [.ref d, .int u, .ref p] σ Q := by
  have ⟨h1, h2⟩ := hd
  refine t_fn ["disk", "user", "pattern"] (f' := "find") rfl (fun pm code doc vs hv => by obtain ⟨a0, a1, a2, rfl⟩ := len3 hv; rfl) rfl rfl fun hn => ?_
  repeat tb_rel
  rename_i F
  refine x_for (TIt.range ?_ (by top_args) (by top_args))
  repeat tb_rel
  refine ⟨4, rfl, by decide, fun i ρ => ∃ us τ, ρ = (F, .list us) :: (τ ++ σ) ∧ Prs c (findN ss u pat i) us τ, wk0 ⟨[], [], rfl, .nil⟩, ?_, ?_⟩
  · rintro i iv ρ hi ⟨us, τ, rfl, hP⟩
    obtain ⟨hk, rfl⟩ := upto_get hi
    obtain ⟨o, ho, hok⟩ := hs.get hk
    have hd' : Dk c ((F, .list us) :: (τ ++ σ)) d dx g dt := hd.up fun p hp => mem_tl (List.mem_append_right _ hp)
    have hdd1 := hd'.1
    have hdd2 := hd'.2
    have hpp : (p, AO.list (aints pat)) ∈ (F, AO.list us) :: (τ ++ σ) := mem_tl (List.mem_append_right _ hp)
    repeat tb_rel
    refine c_raw_entry hd' (mem_tl (List.mem_append_right _ hx)) hs.dlen hk fun O => ?_
    rw [hs.slot ho]
    repeat tb_rel
    refine i_int (v := headO o) mem_hd (slot_head hok) ?_
    repeat tb_rel
    have miss : ∀ m m' : Lm, Has m m' → (∀ e, o = some e → hitB u pat e = false) → ∀ X : Hp, Less ((F, AO.list us) :: (τ ++ σ)) X → endN (Wk (fun ρ => ∃ us τ, ρ = (F, AO.list us) :: (τ ++ σ) ∧ Prs c (findN ss u pat (i + 1)) us τ)) m X m' := by
      intro m m' hm hh X hX
      refine en hX hm ⟨us, τ, rfl, ?_⟩
      unfold findN; rw [ho]
      cases o with
      | none => rw [List.append_nil]; exact hP
      | some e => show Prs c (_ ++ if _ then _ else _) _ _; rw [if_neg (by rw [hh e rfl]; decide), List.append_nil]; exact hP
    cases o with
    | none =>
      refine ⟨fun _ => ?_, fun q => (by simp [headO] at q; exact absurd q.symm hu)⟩
      repeat tb_rel
      exact miss _ _ (has2 rfl rfl) (fun e he => by cases he) _ (.drop .refl)
    | some e =>
      have G := (hok e rfl).get
      by_cases q1 : e.user = u
      · refine ⟨fun q => (by simp [headO, q1] at q), fun _ => ?_⟩
        repeat tb_rel
        refine ⟨_, _, _, _, rfl, rfl, rfl, mem_hd, by decide, by decide, by simp [aints, slotO, G.len], fun R => ?_⟩
        have hc1 : cut (aints (slotO (some e))) 1 (1 + 11) = aints e.raw := (cut_ints (x := 1) (y := 12) rfl rfl).trans (congrArg aints G.raw)
        rw [hc1]
        repeat tb_rel
        refine c_matches (by boot_fact) (by lia) ?_
        cases q2 : matchB pat e.raw with
        | false =>
          repeat tb_rel
          exact miss _ _ (has2 rfl rfl) (fun e' he => by cases he; unfold hitB; rw [q2]; simp) _ (.drop (.drop .refl))
        | true =>
          repeat tb_rel
          refine t_append (t_name rfl ⟨F, rfl, ⟨us, by boot_fact⟩, ?_⟩) (by top_args) (by top_args) (by top_args)
          repeat tb_rel
          refine c_entry_from (e := e) (hd'.up fun p hp => mem_tl (mem_tl hp)) (mem_tl mem_hd) (hok e rfl) fun x ex r mp => ?_
          unfold entO
          dsimp only [List.cons_append, List.nil_append]
          repeat tb_rel
          rename_i t
          refine ⟨us, _, by top_raise0, ?_, ?_⟩
          · have := hP.len; have := findN_len (ss := ss) (u := u) (pat := pat) (i := i); lia
          repeat tb_rel
          refine en (σ' := (F, .list (us ++ [.ref t])) :: ((t, .tup [.int i, .ref x]) :: (entO c e x ex r mp ++ τ) ++ σ)) ?_ (has2 rfl rfl) ⟨_, _, rfl, ?_⟩
          · unfold entO
            dsimp only [List.cons_append, List.nil_append]
            k_caught0
          · unfold findN; rw [ho]; show Prs c (_ ++ if _ then _ else _) _ _; rw [if_pos (by unfold hitB; rw [q1, q2]; simp)]; exact .snoc hP
      · refine ⟨fun _ => ?_, fun q => (by simp [headO] at q; exact absurd q q1)⟩
        repeat tb_rel
        exact miss _ _ (has2 rfl rfl) (fun e' he => by cases he; unfold hitB; simp [q1]) _ (.drop .refl)
  · rintro ρ ⟨us, τ, rfl, hP⟩
    rw [upto_len] at hP
    refine wk0 ?_
    repeat tb_rel
    exact rr .refl (h F us τ hP)
end
set_option maxRecDepth 100000
set_option maxHeartbeats 4000000
section
variable {c : Cx} {n : Nat} {sc : Scope} {σ σ' Z : Hp} {m m' : Lm} {ss : List (Option En)} {bs : List (List Int)}
theorem Prs.take {ps : List (Nat × En)} {us : List AV} {τ : Hp} (h : Prs c ps us τ) : ∀ {i : Nat} {a : AV}, us[i]? = some a → ∃ k e t x dx r mp, ps[i]? = some (k, e) ∧ a = .ref t ∧ Less ((t, .tup [.int (k : Nat), .ref x]) :: entO c e x dx r mp) τ := by
  induction h with
  | nil => intro i a hi; simp at hi
  | @snoc ps us τ k e t x dx r mp h ih =>
    intro i a hi
    rw [List.getElem?_append] at hi ⊢
    rw [h.len] at hi
    split at hi
    · rename_i hlt
      rw [if_pos hlt]
      obtain ⟨k, e, t, x, dx, r, mp, h1, h2, h3⟩ := ih hi
      exact ⟨k, e, t, x, dx, r, mp, h1, h2, .drop (.right _ h3)⟩
    · rename_i hge
      rw [if_neg hge]
      have : i - ps.length = 0 := by
        rcases Nat.eq_zero_or_pos (i - ps.length) with q | q
        · exact q
        · rw [List.getElem?_eq_none (by simp; lia)] at hi; cases hi
      rw [this] at hi ⊢
      simp at hi
      subst hi
      exact ⟨k, e, t, x, dx, r, mp, by simp, rfl, .sub (List.sublist_append_left _ _)⟩
theorem Less.appR {a b : Hp} (h : Less a b) (σ : Hp) : Less (a ++ σ) (b ++ σ) := by
  obtain ⟨τ, h1, h2⟩ := h
  exact ⟨τ ++ σ, h1.append_right σ, h2.append_right σ⟩
theorem c_has_flag {l : Addr} {xs : List Int} {k : Nat} {v : Int} {Q : AV → Hp → Prop} (hm : (l, .list (aints xs)) ∈ σ) (hv : xs[k]? = some v) (hk : k < 1000) (h : Q (.bool (decide (128 ≤ v))) σ) : TC c (n + 1) (.glob "has_flag") [.ref l, .int k] σ Q := by
  refine t_fn ["raw", "at"] (f' := "has_flag") rfl (fun pm code doc vs hv => by obtain ⟨a0, a1, rfl⟩ := len2 hv; rfl) rfl rfl fun hn => ?_
  repeat tb_rel
  refine i_int hm (by rw [Int.toNat_natCast]; exact hv) ?_ (by lia) (by lia)
  repeat tb_rel
  exact rr (by k_caught0) h
noncomputable def findE (ss : List (Option En)) (u : Int) (pat : List Int) (ext : Int) : Option (Nat × En) := (findP ss u pat).find? fun p => p.2.ext == ext
theorem c_find_extent {d dx g dt p : Addr} {u ext : Int} {pat : List Int} {Q : AV → Hp → Prop} (hd : Dk c σ d dx g dt) (hx : (dt, .list (aints (dat ss bs))) ∈ σ) (hs : Da ss bs) (hp : (p, .list (aints pat)) ∈ σ) (hpl : pat.length = 11) (hu : u ≠ 229)
    (h0 : findE ss u pat ext = none → Q .none σ) (h : ∀ k e, findE ss u pat ext = some (k, e) → ∀ t x ex r mp, Q (.ref t) ((t, .tup [.int (k : Nat), .ref x]) :: (entO c e x ex r mp ++ σ))) :
    TC c (n + 5) (.glob "find_extent") [.ref d, .int u, .ref p, .int ext] σ Q := by
  refine t_fn ["disk", "user", "raw", "extent"] (f' := "find_extent") rfl (fun pm code doc vs hv => by obtain ⟨a0, a1, a2, a3, rfl⟩ := len4 hv; rfl) rfl rfl fun hn => ?_
  refine s_cons (x_for (it_list ?_))
  repeat tb_rel
  refine c_find hd hx hs hp hpl hu fun L us τ hP => ?_
  refine ⟨L, us, _, rfl, .head, fun i ρ => ρ = τ ++ σ ∧ ∀ j < i, ∀ p, (findP ss u pat)[j]? = some p → p.2.ext ≠ ext, wk0 ⟨rfl, fun j hj => absurd hj (Nat.not_lt_zero _)⟩, ?_, ?_⟩
  · rintro i iv ρ hi ⟨rfl, hj⟩
    obtain ⟨a, hu', rfl⟩ := map_get hi
    obtain ⟨k, e, t, x, ex, r, mp, e1, rfl, hT⟩ := hP.take hu'
    have hT' := hT.appR σ
    have q1 : (t, AO.tup [.int k, .ref x]) ∈ τ ++ σ := hT'.mem (.head _)
    have q2 : (x, AO.inst c.cE ex) ∈ τ ++ σ := hT'.mem (.tail _ (.head _))
    have q3 : (ex, AO.attrs (entFs e r mp)) ∈ τ ++ σ := hT'.mem (.tail _ (.tail _ (.head _)))
    repeat tb_rel
    refine i_tup (v := .ref x) q1 (by decide) (by decide) rfl ?_
    repeat tb_rel
    by_cases q : e.ext = ext
    · refine br_t (by simp [q]) ?_
      repeat tb_rel
      refine wk (hT'.right _) (rr .refl (h k e ?_ t x ex r mp))
      unfold findE
      rw [List.find?_eq_some_iff_getElem]
      obtain ⟨hl, e2⟩ := List.getElem?_eq_some_iff.mp e1
      refine ⟨by simp [q], i, hl, e2, fun j hj' => ?_⟩
      have := hj j hj' _ (List.getElem?_eq_getElem (Nat.lt_trans hj' hl))
      simp [this]
    · refine br_f (by simp [q]) ?_
      repeat tb_rel
      refine en .refl (has1 rfl) ⟨rfl, fun j hj' p hp' => ?_⟩
      rcases Nat.lt_succ_iff_lt_or_eq.mp hj' with q' | q'
      · exact hj j q' p hp'
      · subst q'; rw [e1] at hp'; cases hp'; exact q
  · rintro ρ ⟨rfl, hj⟩
    rw [List.length_map, hP.len] at hj
    refine wk0 ?_
    repeat tb_rel
    refine rr ?_ (h0 ?_)
    · exact .right [_] (.right _ .refl)
    · unfold findE
      rw [List.find?_eq_none]
      intro p hp'
      obtain ⟨j, hl, rfl⟩ := List.mem_iff_getElem.mp hp'
      have := hj j hl _ (List.getElem?_eq_getElem hl)
      simp [this]
theorem c_need_writable_file {l : Addr} {xs : List Int} {v : Int} {Q : AV → Hp → Prop} (hm : (l, .list (aints xs)) ∈ σ) (hv : xs[8]? = some v) (hlt : v < 128) (h : Q .none σ) : TC c (n + 2) (.glob "need_writable_file") [.ref l] σ Q := by
  refine t_fn ["raw"] (f' := "need_writable_file") rfl (fun pm code doc vs hv => by obtain ⟨a0, rfl⟩ := len1 hv; rfl) rfl rfl fun hn => ?_
  repeat tb_rel
  refine c_has_flag (k := 8) hm hv (by decide) ?_
  repeat tb_rel
  exact rn (by k_caught0) h
theorem c_place_of {d dx g dt : Addr} {r : Nat} {Q : AV → Hp → Prop} (hd : Dk c σ d dx g dt) (h : ∀ t, Q (.ref t) ((t, .tup [.int ((r / 16 : Nat) : Int), .int ((r % 16 : Nat) : Int)]) :: σ)) : TC c (n + 3) (.glob "place_of") [.ref d, .int r] σ Q := by
  refine t_fn ["disk", "record"] (f' := "place_of") rfl (fun pm code doc vs hv => by obtain ⟨a0, a1, rfl⟩ := len2 hv; rfl) rfl rfl fun hn => ?_
  repeat tb_rel
  refine c_records_of_extent hd ?_
  repeat tb_rel
  refine c_records_of_extent hd ?_
  refine b_mod (by decide) ?_
  repeat tb_rel
  rename_i t
  have := h t
  rw [show Int.fdiv (r : Int) 16 = ((r / 16 : Nat) : Int) by rw [Int.fdiv_eq_ediv_of_nonneg _ (by decide)]; lia, show Int.fmod (r : Int) 16 = ((r % 16 : Nat) : Int) by rw [Int.fmod_eq_emod_of_nonneg _ (by decide)]; lia]
  exact rr (by k_caught0) this
noncomputable def maxI (xs : List Int) : Int := xs.foldl max 0
noncomputable def sizeP (ss : List (Option En)) (u : Int) (pat : List Int) : Int := maxI ((findP ss u pat).map fun p => p.2.ext * 16 + p.2.cnt)
theorem maxI_spec {xs : List Int} {M : Int} (h : M ∈ 0 :: xs) (hb : ∀ a ∈ 0 :: xs, a ≤ M) : M = maxI xs := by
  suffices H : ∀ (xs : List Int) (z : Int), M ∈ z :: xs → (∀ a ∈ z :: xs, a ≤ M) → M = xs.foldl max z from H xs 0 h hb
  intro xs
  induction xs with
  | nil => intro z h hb; simpa using h
  | cons x xs ih =>
    intro z h hb
    rw [List.foldl_cons]
    have hz := hb z (.head _)
    have hx := hb x (.tail _ (.head _))
    refine ih _ ?_ fun a ha => ?_
    · rcases List.mem_cons.mp h with q | q
      · subst q; rw [show max M x = M by lia]; exact .head _
      · rcases List.mem_cons.mp q with q | q
        · subst q; rw [show max z M = M by lia]; exact .head _
        · exact .tail _ q
    · rcases List.mem_cons.mp ha with q | q
      · subst q; lia
      · exact hb a (.tail _ (.tail _ q))
theorem c_size_of {d dx g dt p : Addr} {u : Int} {pat : List Int} {Q : AV → Hp → Prop} (hd : Dk c σ d dx g dt) (hx : (dt, .list (aints (dat ss bs))) ∈ σ) (hs : Da ss bs) (hp : (p, .list (aints pat)) ∈ σ) (hpl : pat.length = 11) (hu : u ≠ 229)
    (h : Q (.int (sizeP ss u pat)) σ) : TC c (n + 5) (.glob "size_of") [.ref d, .int u, .ref p] σ Q := by
  have ⟨h1, h2⟩ := hd
  refine t_fn ["disk", "user", "raw"] (f' := "size_of") rfl (fun pm code doc vs hv => by obtain ⟨a0, a1, a2, rfl⟩ := len3 hv; rfl) rfl rfl fun hn => ?_
  refine s_cons (x_assign_comp (it_list ?_) (by top_args) (by top_args))
  repeat tb_rel
  refine c_find hd hx hs hp hpl hu fun L us τ hP => ?_
  have hl4 : (findP ss u pat).length ≤ 4 := findN_len
  refine ⟨L, us, _, rfl, .head, fun i ρ acc => ρ = τ ++ σ ∧ acc = aints (((findP ss u pat).map fun p => p.2.ext * 16 + p.2.cnt).take i), ⟨rfl, rfl⟩, by rw [List.length_map, hP.len]; lia, ?_, ?_⟩
  · rintro i iv ρ acc hi ⟨rfl, rfl⟩
    obtain ⟨a, hu', rfl⟩ := map_get hi
    obtain ⟨k, e, t, x, ex, r, mp, e1, rfl, hT⟩ := hP.take hu'
    have hT' := hT.appR σ
    have q1 : (t, AO.tup [.int k, .ref x]) ∈ τ ++ σ := hT'.mem (.head _)
    have q2 : (x, AO.inst c.cE ex) ∈ τ ++ σ := hT'.mem (.tail _ (.head _))
    have q3 : (ex, AO.attrs (entFs e r mp)) ∈ τ ++ σ := hT'.mem (.tail _ (.tail _ (.head _)))
    repeat tb_rel
    refine c_records_of_extent (hd.up fun p hp => List.mem_append_right _ hp) ?_
    repeat tb_rel
    refine ⟨rfl, ?_⟩
    rw [List.take_add_one, List.getElem?_map, e1]; simp [aints]
  · rintro ρ acc ⟨rfl, rfl⟩ E
    rw [List.length_map, hP.len, List.take_of_length_le (by simp)]
    dsimp only [List.cons_append, List.nil_append]
    repeat tb_rel
    rename_i B
    refine b_addl mem_hd (by boot_fact) (fun S => ?_) (by simp [aints]; lia)
    have e1 : [AV.int 0] ++ aints ((findP ss u pat).map fun p => p.2.ext * 16 + p.2.cnt) = aints (0 :: ((findP ss u pat).map fun p => p.2.ext * 16 + p.2.cnt)) := by simp [aints]
    rw [e1]
    repeat tb_rel
    refine f_maxl mem_hd (by simp) fun M hM hb => ?_
    refine rr (σ' := σ) ?_ ?_
    · exact .drop (.drop (.drop (.drop (.right _ .refl))))
    · rw [show M = sizeP ss u pat from maxI_spec hM hb]; exact h
end
set_option maxRecDepth 100000
set_option maxHeartbeats 4000000
section
variable {c : Cx} {n : Nat} {sc : Scope} {σ σ' Z : Hp} {m m' : Lm} {ss : List (Option En)} {bs : List (List Int)}
theorem live_of {k i : Nat} {e : En} (h : ss[k]? = some (some e)) (hk : k < i) : (k, e) ∈ liveN ss i := by
  induction i with
  | zero => exact absurd hk (Nat.not_lt_zero _)
  | succ i ih =>
    unfold liveN
    rcases Nat.lt_succ_iff_lt_or_eq.mp hk with q | q
    · exact List.mem_append_left _ (ih q)
    · subst q; rw [h]; exact List.mem_append_right _ (.head _)
theorem findE_some {u ext : Int} {pat : List Int} {k : Nat} {e : En} (h : findE ss u pat ext = some (k, e)) : ss[k]? = some (some e) ∧ k < 4 ∧ e.ext = ext :=
  ⟨(find_mem (List.mem_of_find?_eq_some h)).1, (find_mem (List.mem_of_find?_eq_some h)).2, by have := List.find?_some h; simpa using this⟩
theorem okL_mem {k : Nat} {e : En} {b : Int} (h : okL [] (liveP ss) = true) (he : (k, e) ∈ liveP ss) (hb : b ∈ e.map) : b = 0 ∨ (16 ≤ b ∧ b < 24) := by
  obtain ⟨i, hi⟩ := List.getElem?_of_mem he
  obtain ⟨j, hj⟩ := List.getElem?_of_mem hb
  have := okM_get (okL_get h hi) hj
  unfold okB at this
  simp only [Bool.or_eq_true, Bool.and_eq_true, beq_iff_eq, decide_eq_true_eq] at this
  lia
noncomputable def readP (ss : List (Option En)) (bs : List (List Int)) (u : Int) (pat : List Int) (r : Nat) : Option (List Int) :=
  match findE ss u pat ((r / 16 : Nat) : Int) with
  | none => none
  | some p => if p.2.cnt ≤ ((r % 16 : Nat) : Int) then none else
    match p.2.map[r % 16]? with
    | none => none
    | some b => if b = 0 then none else bs[(b - 16).toNat]?
theorem c_read_at {d dx g dt p : Addr} {u : Int} {r : Nat} {pat : List Int} {Q : AV → Hp → Prop} (hd : Dk c σ d dx g dt) (hx : (dt, .list (aints (dat ss bs))) ∈ σ) (hs : Da ss bs) (hp : (p, .list (aints pat)) ∈ σ) (hpl : pat.length = 11) (hu : u ≠ 229)
    (hok : okL [] (liveP ss) = true) (h0 : readP ss bs u pat r = none → Q .none σ) (h : ∀ xs, readP ss bs u pat r = some xs → ∀ D, Q (.ref D) ((D, .list (aints xs)) :: σ)) :
    TC c (n + 6) (.glob "read_at") [.ref d, .int u, .ref p, .int r] σ Q := by
  refine t_fn ["disk", "user", "raw", "record"] (f' := "read_at") rfl (fun pm code doc vs hv => by obtain ⟨a0, a1, a2, a3, rfl⟩ := len4 hv; rfl) rfl rfl fun hn => ?_
  repeat tb_rel
  refine c_place_of hd fun t => ?_
  repeat tb_rel
  refine c_find_extent (hd.up (by top_caught0)) (mem_tl hx) hs (by boot_fact) hpl hu (fun e0 => ?_) fun k e he t x ex r' mp => ?_
  · skip
    repeat tb_rel
    refine rr (by k_caught0) (h0 ?_)
    unfold readP; rw [e0]
  · obtain ⟨f1, f2, f3⟩ := findE_some he
    have hm16 := (hs.ok e (List.mem_of_getElem? f1)).map
    have hlt : r % 16 < 16 := Nat.mod_lt _ (by decide)
    obtain ⟨b, hb⟩ : ∃ b, e.map[r % 16]? = some b := ⟨_, List.getElem?_eq_getElem (by lia)⟩
    have hb2 := okL_mem hok (live_of f1 f2) (List.mem_of_getElem? hb)
    have hrp : readP ss bs u pat r = if e.cnt ≤ ((r % 16 : Nat) : Int) then none else if b = 0 then none else bs[(b - 16).toNat]? := by
      unfold readP; rw [he]; show (if _ then _ else _) = _; rw [hb]
    unfold entO
    dsimp only [List.cons_append, List.nil_append]
    repeat tb_rel
    refine i_tup (v := .ref x) mem_hd (by decide) (by decide) rfl ?_
    repeat tb_rel
    by_cases q1 : e.cnt ≤ ((r % 16 : Nat) : Int)
    · rw [if_pos q1] at hrp
      refine br_t (by simp only [decide_eq_true_eq]; exact q1) ?_
      repeat tb_rel
      exact rr (by k_caught0) (h0 hrp)
    · rw [if_neg q1] at hrp
      refine br_f (by simp only [decide_eq_false_iff_not]; exact q1) ?_
      repeat tb_rel
      refine i_tup (v := .ref x) mem_hd (by decide) (by decide) rfl ?_
      repeat tb_rel
      refine c_records_of_block (hd.up (by top_caught0)) ?_
      repeat tb_rel
      rw [show Int.fdiv ((r % 16 : Nat) : Int) 1 = ((r % 16 : Nat) : Int) by rw [Int.fdiv_eq_ediv_of_nonneg _ (by decide)]; lia]
      refine i_int (v := b) (by boot_fact) (by rw [Int.toNat_natCast]; exact hb) ?_ (by lia) (by lia)
      repeat tb_rel
      by_cases q2 : b = 0
      · rw [if_pos q2] at hrp
        refine br_t (by simp [q2]) ?_
        repeat tb_rel
        exact rr (by k_caught0) (h0 hrp)
      · rw [if_neg q2] at hrp
        refine br_f (by simp [q2]) ?_
        repeat tb_rel
        refine c_records_of_block (hd.up (by top_caught0)) ?_
        refine b_mod (by decide) ?_
        obtain ⟨j, rfl, hj⟩ : ∃ j : Nat, b = ((16 + j : Nat) : Int) ∧ j < 8 := ⟨(b - 16).toNat, by lia, by lia⟩
        rw [show Int.fmod ((r % 16 : Nat) : Int) 1 = 0 by rw [Int.fmod_eq_emod_of_nonneg _ (by decide)]; lia]
        rw [show (((16 + j : Nat) : Int) - 16).toNat = j by lia] at hrp
        obtain ⟨xs, hxs⟩ : ∃ xs, bs[j]? = some xs := ⟨_, List.getElem?_eq_getElem (by rw [hs.bl]; exact hj)⟩
        refine c_read_record (hd.up (by top_caught0)) (by boot_fact) hs hxs fun D => ?_
        rw [hxs] at hrp
        exact rr (by k_caught0) (h xs hrp D)
theorem c_make_extent {d dx g dt r0 : Addr} {user ext : Int} {raw : List Int} {k : Nat} {Q : AV → Hp → Prop} (hd : Dk c σ d dx g dt) (hr : (r0, .list (aints raw)) ∈ σ) (hs : Da ss bs) (ho : (En.mk user raw ext 0 (zeros 16)).Ok)
    (hf : freeP ss = some k) (hu : Mine.Upd σ dt (.list (aints (dat ss bs))) (.list (aints (dat (ss.set k (some ⟨user, raw, ext, 0, zeros 16⟩)) bs))) σ') (h : Q (.int k) σ') :
    TC c (n + 5) (.glob "make_extent") [.ref d, .int user, .ref r0, .int ext] σ Q := by
  refine t_fn ["disk", "user", "raw", "extent"] (f' := "make_extent") rfl (fun pm code doc vs hv => by obtain ⟨a0, a1, a2, a3, rfl⟩ := len4 hv; rfl) rfl rfl fun hn => ?_
  repeat tb_rel
  refine c_need_writable hd ?_
  repeat tb_rel
  refine c_free_entry hd hu.mem hs (fun e0 => by rw [hf] at e0; cases e0) fun k' hk' hlt => ?_
  rw [hf] at hk'
  cases hk'
  repeat tb_rel
  refine c_new_entry hd hr ho.raw fun x ex r mp => ?_
  unfold entO
  dsimp only [List.cons_append, List.nil_append]
  refine c_write_entry (hd.up (by top_caught0)) (EnAt.head (σ := σ)) hs hlt ho (.tail (.tail (.tail (.tail hu)))) ?_
  repeat tb_rel
  exact rr (by k_caught0) h
theorem c_make {d dx g dt r0 : Addr} {user : Int} {raw : List Int} {k : Nat} {Q : AV → Hp → Prop} (hd : Dk c σ d dx g dt) (hr : (r0, .list (aints raw)) ∈ σ) (hs : Da ss bs) (ho : (En.mk user raw 0 0 (zeros 16)).Ok)
    (hf : freeP ss = some k) (hu : Mine.Upd σ dt (.list (aints (dat ss bs))) (.list (aints (dat (ss.set k (some ⟨user, raw, 0, 0, zeros 16⟩)) bs))) σ') (h : Q (.int k) σ') :
    TC c (n + 6) (.glob "make") [.ref d, .int user, .ref r0] σ Q := by
  refine t_fn ["disk", "user", "raw"] (f' := "make") rfl (fun pm code doc vs hv => by obtain ⟨a0, a1, a2, rfl⟩ := len3 hv; rfl) rfl rfl fun hn => ?_
  repeat tb_rel
  refine c_make_extent hd hr hs ho hf hu ?_
  exact rr (by k_caught0) h
end
set_option maxRecDepth 100000
set_option maxHeartbeats 4000000
section
variable {c : Cx} {n : Nat} {sc : Scope} {σ σ' Z : Hp} {m m' : Lm} {ss : List (Option En)} {bs : List (List Int)}
variable {pre post : List Int} {f : Fcb} {me : Addr}
theorem c_code_of {d dx g dt : Addr} {k : Nat} {Q : AV → Hp → Prop} (hd : Dk c σ d dx g dt) (h : Q (.int 0) σ) : TC c (n + 1) (.glob "code_of") [.ref d, .int k] σ Q := by
  have ⟨h1, h2⟩ := hd
  refine t_fn ["disk", "number"] (f' := "code_of") rfl (fun pm code doc vs hv => by obtain ⟨a0, a1, rfl⟩ := len2 hv; rfl) rfl rfl fun hn => ?_
  repeat tb_rel
  refine rr (by k_caught0) (q_int h ?_)
  show Int.fmod (k : Int) 1 = 0
  rw [Int.fmod_eq_emod_of_nonneg _ (by decide)]; lia
theorem c_merged {p q : Addr} {xs : List Int} {Q : AV → Hp → Prop} (hq : (q, .list (aints xs)) ∈ σ) (hl : xs.length ≤ 1000) (h : ∀ D, Q (.ref D) ((D, .list (aints xs)) :: σ)) :
    TC c (n + 1) (.glob "merged") [.ref p, .ref q] ((p, .list (aints xs)) :: σ) Q := by
  refine t_fn ["ours", "theirs"] (f' := "merged") rfl (fun pm code doc vs hv => by obtain ⟨a0, a1, rfl⟩ := len2 hv; rfl) rfl rfl fun hn => ?_
  repeat tb_rel
  rename_i F
  obtain ⟨σ0, hpk⟩ := Pick.exists hq
  refine x_for (TIt.zip ?_ (by top_args) (by top_args))
  repeat tb_rel
  refine ⟨p, _, q, _, _, _, rfl, rfl, .tail .head, .tail hpk, fun i ρ => ρ = (F, .list (aints (xs.take i))) :: σ0, wk0 (by simp [aints]), ?_, ?_⟩
  · rintro i iv ρ hi rfl
    obtain ⟨a, b, ha, hb, rfl⟩ := zipL_get hi
    obtain ⟨x, hx, rfl⟩ := aints_get ha
    obtain ⟨y, hy, rfl⟩ := aints_get hb
    rw [hx] at hy; cases hy
    have fin : aints (xs.take i) ++ [.int x] = aints (xs.take (i + 1)) := by rw [List.take_add_one, hx]; simp [aints]
    by_cases q1 : x = 0
    · subst q1
      repeat tb_rel
      refine t_append (t_name rfl ⟨F, rfl, ⟨_, by boot_fact⟩, ?_⟩) (by top_args) (by top_args) (by top_args)
      repeat tb_rel
      refine ⟨_, _, by top_raise0, by simp [aints]; lia, ?_⟩
      repeat tb_rel
      exact en .refl (has2 rfl rfl) (by rw [fin])
    · skip
      repeat tb_rel
      refine t_append (t_name rfl ⟨F, rfl, ⟨_, by boot_fact⟩, ?_⟩) (by top_args) (by top_args) (by top_args)
      repeat tb_rel
      refine ⟨_, _, by top_raise0, by simp [aints]; lia, ?_⟩
      repeat tb_rel
      exact en .refl (has2 rfl rfl) (by rw [fin])
  · rintro ρ rfl
    rw [show (zipL (aints xs) (aints xs)).length = xs.length by simp [zipL, aints], List.take_length]
    refine wk (σ' := (F, .list (aints xs)) :: σ) ?_ ?_
    · refine Less.trans ((Less.perm hpk.perm.symm).both) ?_
      dsimp only [List.cons_append, List.nil_append]
      k_caught0
    repeat tb_rel
    exact rr .refl (h F)
end
set_option maxRecDepth 100000
set_option maxHeartbeats 4000000
section
variable {c : Cx} {n : Nat} {sc : Scope} {σ σ' Z : Hp} {m m' : Lm} {ss : List (Option En)} {bs : List (List Int)}
variable {pre post : List Int} {f : Fcb} {me d dx g dt : Addr}
theorem c_close_file0 {u : Int} {Q : AV → Hp → Prop} (hd1 : (d, .inst c.cD dx) ∈ σ) (hF : FAt pre post f) (hc : f.chg = false)
    (h : Q (.int 0) ((dt, AO.list (aints (dat (ss) (bs)))) :: (me, AO.list (aints (mm pre post (f)))) :: (dx, AO.attrs (diskFs (g) dt)) :: (g, AO.list (aints [])) :: σ)) : TC c (n + 3) (.glob "close_file") [.ref d, .int u, .ref me, .int pre.length] ((dt, AO.list (aints (dat (ss) (bs)))) :: (me, AO.list (aints (mm pre post (f)))) :: (dx, AO.attrs (diskFs (g) dt)) :: (g, AO.list (aints [])) :: σ) Q := by
  refine t_fn ["disk", "user", "memory", "at"] (f' := "close_file") rfl (fun pm code doc vs hv => by obtain ⟨a0, a1, a2, a3, rfl⟩ := len4 hv; rfl) rfl rfl fun hn => ?_
  repeat tb_rel
  refine c_is_changed (by boot_fact) hF ?_
  rw [hc]
  repeat tb_rel
  exact rr .refl h
noncomputable def En.close (e : En) (f : Fcb) : En := ⟨e.user, e.raw, e.ext, max e.cnt f.rc, f.al⟩
theorem c_close_file1 {u : Int} {k : Nat} {e : En} {Q : AV → Hp → Prop} (hd1 : (d, .inst c.cD dx) ∈ σ) (hs : Da ss bs) (hF : FAt pre post f) (hu : u ≠ 229) (hc : f.chg = true)
    (he : findE ss u f.nm f.ex = some (k, e)) (hm : e.map = f.al) 
    (h : ∀ g', Q (.int 0) ((dt, AO.list (aints (dat (ss.set k (some (e.close f))) (bs)))) :: (me, AO.list (aints (mm pre post ({ f with chg := false })))) :: (dx, AO.attrs (diskFs (g') dt)) :: (g', AO.list (aints [])) :: σ)) : TC c (n + 6) (.glob "close_file") [.ref d, .int u, .ref me, .int pre.length] ((dt, AO.list (aints (dat (ss) (bs)))) :: (me, AO.list (aints (mm pre post (f)))) :: (dx, AO.attrs (diskFs (g) dt)) :: (g, AO.list (aints [])) :: σ) Q := by
  obtain ⟨f1, f2, f3⟩ := findE_some he
  have hoe := hs.ok e (List.mem_of_getElem? f1)
  refine t_fn ["disk", "user", "memory", "at"] (f' := "close_file") rfl (fun pm code doc vs hv => by obtain ⟨a0, a1, a2, a3, rfl⟩ := len4 hv; rfl) rfl rfl fun hn => ?_
  repeat tb_rel
  refine c_is_changed (by boot_fact) hF ?_
  rw [hc]
  repeat tb_rel
  refine c_name_at (by boot_fact) hF fun N => ?_
  repeat tb_rel
  refine c_extent_at (by boot_fact) hF ?_
  repeat tb_rel
  refine c_find_extent ⟨by boot_fact, by boot_fact⟩ (by boot_fact) hs mem_hd hF.nm hu (fun e0 => by rw [he] at e0; cases e0) fun k' e' he' t x ex r mp => ?_
  rw [he] at he'
  cases he'
  unfold entO
  dsimp only [List.cons_append, List.nil_append]
  repeat tb_rel
  refine c_blocks_at ⟨by boot_fact, by boot_fact⟩ (by boot_fact) hF fun B => ?_
  repeat tb_rel
  rw [hm]
  refine c_merged (by boot_fact) (by rw [hF.al]; decide) fun M => ?_
  repeat tb_rel
  refine x_ttn (fun env he => by cases env; cases he; rfl) ?_
  repeat tb_rel
  refine c_count_at (by boot_fact) hF ?_
  repeat tb_rel
  have hoe' : (e.close f).Ok := ⟨hoe.raw, hF.al, hoe.user, hoe.ext⟩
  rw [show fput (fput (entFs e r mp) "map" (.ref M)) "count" (.int (max e.cnt f.rc)) = entFs (e.close f) r M from rfl]
  refine c_entry_octets (e := e.close f) ⟨by boot_fact, by boot_fact⟩ ⟨by boot_fact, by boot_fact, (show (r, AO.list (aints e.raw)) ∈ _ from by boot_fact), (show (M, AO.list (aints f.al)) ∈ _ from by boot_fact)⟩ hoe' fun O => ?_
  repeat tb_rel
  refine c_put_entry (xs := dat ss bs) ⟨by boot_fact, by boot_fact⟩ mem_hd hs.dlen f2 hoe'.get.len (by rw [hs.setSlot f2 hoe']; top_raise0) ?_
  repeat tb_rel
  refine x_assign_attr (t_comp (it_list ?_) (by top_args))
  repeat tb_rel
  refine ⟨g, aints [], _, rfl, by allgen_close_more, fun i ρ acc => ρ = _ ∧ acc = [], ⟨rfl, rfl⟩, by decide, ?_, ?_⟩
  · rintro i iv ρ acc hi _
    cases hi
  · rintro ρ acc ⟨rfl, rfl⟩ G
    dsimp only [List.cons_append, List.nil_append]
    repeat tb_rel
    rw [show fput (diskFs g dt) "given" (.ref G) = diskFs G dt from rfl]
    refine c_mark_changed hF (by top_raise0) ?_
    repeat tb_rel
    refine c_code_of ⟨by boot_fact, by boot_fact⟩ ?_
    refine rr ?_ (h G)
    show Less _ ((G, AO.list (aints [])) :: _)
    k_caught0
end
set_option maxRecDepth 100000
set_option maxHeartbeats 4000000
section
variable {c : Cx} {n : Nat} {sc : Scope} {σ σ' Z : Hp} {m m' : Lm} {ss : List (Option En)} {bs : List (List Int)}
variable {pre post : List Int} {f : Fcb} {me d dx g dt : Addr}
/-- the directory as a closing leaves it -/
noncomputable def ClosedTo (ss : List (Option En)) (u : Int) (f : Fcb) (ss' : List (Option En)) : Prop :=
  (f.chg = false ∧ ss' = ss) ∨ (f.chg = true ∧ ∃ k e, findE ss u f.nm f.ex = some (k, e) ∧ e.map = f.al ∧ ss' = ss.set k (some (e.close f)))
theorem c_close_file {u : Int} {ss' : List (Option En)} {Q : AV → Hp → Prop} (hd1 : (d, .inst c.cD dx) ∈ σ) (hs : Da ss bs) (hF : FAt pre post f) (hu : u ≠ 229) (hc : ClosedTo ss u f ss')
    (h : ∀ g', Q (.int 0) ((dt, AO.list (aints (dat (ss') (bs)))) :: (me, AO.list (aints (mm pre post ({ f with chg := false })))) :: (dx, AO.attrs (diskFs (g') dt)) :: (g', AO.list (aints [])) :: σ)) : TC c (n + 6) (.glob "close_file") [.ref d, .int u, .ref me, .int pre.length] ((dt, AO.list (aints (dat (ss) (bs)))) :: (me, AO.list (aints (mm pre post (f)))) :: (dx, AO.attrs (diskFs (g) dt)) :: (g, AO.list (aints [])) :: σ) Q := by
  rcases hc with ⟨h1, rfl⟩ | ⟨h1, k, e, h2, h3, rfl⟩
  · refine c_close_file0 (n := n + 3) hd1 hF h1 ?_
    have := h g
    rwa [show ({ f with chg := false } : Fcb) = f by cases f; simp at h1; simp [h1]] at this
  · exact c_close_file1 hd1 hs hF hu h1 h2 h3 h
theorem ClosedTo.da {u : Int} {ss' : List (Option En)} (h : ClosedTo ss u f ss') (hs : Da ss bs) (hF : FAt pre post f) : Da ss' bs := by
  rcases h with ⟨h1, rfl⟩ | ⟨h1, k, e, h2, h3, rfl⟩
  · exact hs
  · have hoe := hs.ok e (List.mem_of_getElem? (findE_some h2).1)
    exact hs.put ⟨hoe.raw, hF.al, hoe.user, hoe.ext⟩
theorem c_make_file {u : Int} {k : Nat} {Q : AV → Hp → Prop} (hd1 : (d, .inst c.cD dx) ∈ σ) (hs : Da ss bs) (hF : FAt pre post f) (hu : u ≠ 229) (hf : freeP ss = some k)
    (h : Q (.int 0) ((dt, AO.list (aints (dat (ss.set k (some ⟨u, f.nm, f.ex, 0, zeros 16⟩)) (bs)))) :: (me, AO.list (aints (mm pre post (⟨f.nm, f.ex, false, 0, zeros 16, f.cr⟩)))) :: (dx, AO.attrs (diskFs (g) dt)) :: (g, AO.list (aints [])) :: σ)) : TC c (n + 4) (.glob "make_file") [.ref d, .int u, .ref me, .int pre.length] ((dt, AO.list (aints (dat (ss) (bs)))) :: (me, AO.list (aints (mm pre post (f)))) :: (dx, AO.attrs (diskFs (g) dt)) :: (g, AO.list (aints [])) :: σ) Q := by
  have ht := hF.total
  have hF2 : FAt pre post { f with chg := true } := hF.schg
  have hoe : (En.mk u f.nm f.ex 0 (zeros 16)).Ok := ⟨hF.nm, rfl, hu, hF.ex⟩
  refine t_fn ["disk", "user", "memory", "at"] (f' := "make_file") rfl (fun pm code doc vs hv => by obtain ⟨a0, a1, a2, a3, rfl⟩ := len4 hv; rfl) rfl rfl fun hn => ?_
  repeat tb_rel
  refine c_put_octets (a := pre.length + 14) (ys := [0]) mem_hd hF.len (by simp; lia) (by decide) (by simp [Byte]) (by rw [mm_splice hF (by decide) hF.toOk.get.p14]; top_raise0) ?_
  repeat tb_rel
  refine c_need_writable_disk ⟨by boot_fact, by boot_fact⟩ ?_
  repeat tb_rel
  refine c_free_entry ⟨by boot_fact, by boot_fact⟩ (by boot_fact) hs (fun e0 => by rw [hf] at e0; cases e0) fun k' hk' hlt => ?_
  rw [hf] at hk'
  cases hk'
  repeat tb_rel
  refine c_extent_at (by boot_fact) hF2 ?_
  repeat tb_rel
  refine c_name_at (by boot_fact) hF2 fun N => ?_
  repeat tb_rel
  refine c_new_entry (raw := f.nm) ⟨by boot_fact, by boot_fact⟩ mem_hd hF.nm fun x ex r mp => ?_
  refine c_entry_octets (e := ⟨u, f.nm, f.ex, 0, zeros 16⟩) ⟨List.mem_append_right _ (by boot_fact), List.mem_append_right _ (by boot_fact)⟩ EnAt.head hoe fun O => ?_
  unfold entO
  dsimp only [List.cons_append, List.nil_append]
  repeat tb_rel
  refine c_put_entry (xs := dat ss bs) ⟨by boot_fact, by boot_fact⟩ mem_hd hs.dlen hlt hoe.get.len (by rw [hs.setSlot hlt hoe]; top_raise0) ?_
  repeat tb_rel
  refine c_begin_extent hF2 hF.ex (by top_raise0) ?_
  repeat tb_rel
  refine c_code_of ⟨by boot_fact, by boot_fact⟩ ?_
  exact rr (by k_caught0) h
theorem c_leave_extent {u : Int} {ext : Int} {k : Nat} {ss' : List (Option En)} {Q : AV → Hp → Prop} (hd1 : (d, .inst c.cD dx) ∈ σ) (hs : Da ss bs) (hF : FAt pre post f) (hu : u ≠ 229) (hc : ClosedTo ss u f ss') (he : 0 ≤ ext ∧ ext < 32)
    (hne : findE ss' u f.nm ext = none) (hf : freeP ss' = some k)
    (h : ∀ g, Q (.int 0) ((dt, AO.list (aints (dat (ss'.set k (some ⟨u, f.nm, ext, 0, zeros 16⟩)) (bs)))) :: (me, AO.list (aints (mm pre post (⟨f.nm, ext, false, 0, zeros 16, f.cr⟩)))) :: (dx, AO.attrs (diskFs (g) dt)) :: (g, AO.list (aints [])) :: σ)) :
    TC c (n + 7) (.glob "leave_extent") [.ref d, .int u, .ref me, .int pre.length, .int ext, .bool true] ((dt, AO.list (aints (dat (ss) (bs)))) :: (me, AO.list (aints (mm pre post (f)))) :: (dx, AO.attrs (diskFs (g) dt)) :: (g, AO.list (aints [])) :: σ) Q := by
  have ht := hF.total
  have hF2 : FAt pre post { f with chg := false } := hF.schg
  have hoe : (En.mk u f.nm ext 0 (zeros 16)).Ok := ⟨hF.nm, rfl, hu, he⟩
  have hs' := hc.da hs hF
  refine t_fn ["disk", "user", "memory", "at", "extent", "is_writing"] (f' := "leave_extent") rfl (fun pm code doc vs hv => by obtain ⟨a0, a1, a2, a3, a4, a5, rfl⟩ := len6 hv; rfl) rfl rfl fun hn => ?_
  repeat tb_rel
  refine c_close_file hd1 hs hF hu hc fun g' => ?_
  repeat tb_rel
  refine c_name_at (by boot_fact) hF2 fun N => ?_
  repeat tb_rel
  refine c_find_extent ⟨by boot_fact, by boot_fact⟩ (by boot_fact) hs' mem_hd hF.nm hu (fun _ => ?_) (fun k e e0 => by rw [hne] at e0; cases e0)
  repeat tb_rel
  refine c_need_writable_disk ⟨by boot_fact, by boot_fact⟩ ?_
  repeat tb_rel
  refine c_free_entry ⟨by boot_fact, by boot_fact⟩ (by boot_fact) hs' (fun e0 => by rw [hf] at e0; cases e0) fun k' hk' hlt => ?_
  rw [hf] at hk'
  cases hk'
  repeat tb_rel
  refine c_name_at (by boot_fact) hF2 fun N => ?_
  repeat tb_rel
  refine c_new_entry (raw := f.nm) ⟨by boot_fact, by boot_fact⟩ mem_hd hF.nm fun x ex r mp => ?_
  refine c_entry_octets (e := ⟨u, f.nm, ext, 0, zeros 16⟩) ⟨List.mem_append_right _ (by boot_fact), List.mem_append_right _ (by boot_fact)⟩ EnAt.head hoe fun O => ?_
  unfold entO
  dsimp only [List.cons_append, List.nil_append]
  repeat tb_rel
  refine c_put_entry (xs := dat ss' bs) ⟨by boot_fact, by boot_fact⟩ mem_hd hs'.dlen hlt hoe.get.len (by rw [hs'.setSlot hlt hoe]; top_raise0) ?_
  repeat tb_rel
  refine c_begin_extent hF2 he (by top_raise0) ?_
  repeat tb_rel
  exact rr (by k_caught0) (h _)
end
set_option maxRecDepth 100000
set_option maxHeartbeats 4000000
section
variable {c : Cx} {n : Nat} {sc : Scope} {σ σ' Z : Hp} {m m' : Lm} {ss : List (Option En)} {bs : List (List Int)}
variable {pre post : List Int} {f : Fcb} {me d dx g dt : Addr}
noncomputable def GoTo (ss : List (Option En)) (u : Int) (f : Fcb) (ss' : List (Option En)) (f' : Fcb) : Prop :=
  (f.cr < 16 ∧ ss' = ss ∧ f' = f) ∨ (16 ≤ f.cr ∧ f.ex + 1 < 32 ∧ ∃ s1 k, ClosedTo ss u f s1 ∧ findE s1 u f.nm (f.ex + 1) = none ∧ freeP s1 = some k ∧ ss' = s1.set k (some ⟨u, f.nm, f.ex + 1, 0, zeros 16⟩) ∧ f' = ⟨f.nm, f.ex + 1, false, 0, zeros 16, 0⟩)
theorem byte0 : Byte 0 := ⟨by decide, by decide⟩
theorem zeros_byte {k : Nat} : ∀ x ∈ zeros k, Byte x := fun x hx => by rw [List.eq_of_mem_replicate hx]; exact byte0
theorem c_go_on {u : Int} {ss' : List (Option En)} {f' : Fcb} {Q : AV → Hp → Prop} (hd1 : (d, .inst c.cD dx) ∈ σ) (hs : Da ss bs) (hF : FAt pre post f) (hu : u ≠ 229) (hg : GoTo ss u f ss' f')
    (h : ∀ g, Q (.int 0) ((dt, AO.list (aints (dat (ss') (bs)))) :: (me, AO.list (aints (mm pre post (f')))) :: (dx, AO.attrs (diskFs (g) dt)) :: (g, AO.list (aints [])) :: σ)) : TC c (n + 8) (.glob "go_on") [.ref d, .int u, .ref me, .int pre.length, .bool true] ((dt, AO.list (aints (dat (ss) (bs)))) :: (me, AO.list (aints (mm pre post (f)))) :: (dx, AO.attrs (diskFs (g) dt)) :: (g, AO.list (aints [])) :: σ) Q := by
  refine t_fn ["disk", "user", "memory", "at", "is_writing"] (f' := "go_on") rfl (fun pm code doc vs hv => by obtain ⟨a0, a1, a2, a3, a4, rfl⟩ := len5 hv; rfl) rfl rfl fun hn => ?_
  repeat tb_rel
  refine c_current_at (by boot_fact) hF ?_
  repeat tb_rel
  refine c_records_of_extent ⟨by boot_fact, by boot_fact⟩ ?_
  repeat tb_rel
  rcases hg with ⟨h1, rfl, rfl⟩ | ⟨h1, hx, s1, k, h2, h3, h4, rfl, rfl⟩
  · skip
    repeat tb_rel
    exact rr .refl (h g)
  · skip
    repeat tb_rel
    refine c_extent_at (by boot_fact) hF ?_
    repeat tb_rel
    have h0 := hF.ex.1
    refine c_leave_extent hd1 hs hF hu h2 (by lia) h3 h4 fun g' => ?_
    repeat tb_rel
    have hF2 : FAt pre post ⟨f.nm, f.ex + 1, false, 0, zeros 16, f.cr⟩ := ⟨⟨hF.nm, rfl, by show 0 ≤ f.ex + 1 ∧ f.ex + 1 < 32; lia, byte0, hF.cr, zeros_byte⟩, hF.total⟩
    refine c_set_current (v := 0) hF2 byte0 (by top_raise0) ?_
    repeat tb_rel
    exact rr .refl (h g')
theorem GoTo.da {u : Int} {ss' : List (Option En)} {f' : Fcb} (h : GoTo ss u f ss' f') (hs : Da ss bs) (hF : FAt pre post f) (hu : u ≠ 229) : Da ss' bs ∧ FAt pre post f' ∧ f'.nm = f.nm := by
  rcases h with ⟨h1, rfl, rfl⟩ | ⟨h1, hx, s1, k, h2, h3, h4, rfl, rfl⟩
  · exact ⟨hs, hF, rfl⟩
  · have h0 := hF.ex.1
    exact ⟨(h2.da hs hF).put ⟨hF.nm, rfl, hu, by show 0 ≤ f.ex + 1 ∧ f.ex + 1 < 32; lia⟩, ⟨⟨hF.nm, rfl, by show 0 ≤ f.ex + 1 ∧ f.ex + 1 < 32; lia, byte0, byte0, zeros_byte⟩, hF.total⟩, rfl⟩
/-- a block is given to a slot -/
noncomputable def BlkTo (ss : List (Option En)) (u : Int) (f : Fcb) (slot b : Nat) (ss' : List (Option En)) : Prop :=
  f.al[slot]? = some 0 ∧ nearP (usedP ss) 48 (min (maxI f.al).toNat 24) (maxI f.al).toNat = some b ∧ ∃ k e, findE ss u f.nm f.ex = some (k, e) ∧ e.map[slot]? = some 0 ∧ ss' = ss.set k (some ⟨e.user, e.raw, e.ext, e.cnt, e.map.set slot b⟩)
theorem BlkTo.da {u : Int} {slot b : Nat} {ss' : List (Option En)} (h : BlkTo ss u f slot b ss') (hs : Da ss bs) : Da ss' bs := by
  obtain ⟨h1, h2, k, e, h3, h4, rfl⟩ := h
  have hoe := hs.ok e (List.mem_of_getElem? (findE_some h3).1)
  exact hs.put ⟨hoe.raw, by show (e.map.set slot b).length = 16; rw [List.length_set]; exact hoe.map, hoe.user, hoe.ext⟩
theorem c_block_for {u : Int} {slot b : Nat} {ss' : List (Option En)} {Q : AV → Hp → Prop} (hd1 : (d, .inst c.cD dx) ∈ σ) (hs : Da ss bs) (hF : FAt pre post f) (hu : u ≠ 229) (hb : b < 256) (hB : BlkTo ss u f slot b ss')
    (h : Q (.int b) ((dt, AO.list (aints (dat (ss') (bs)))) :: (me, AO.list (aints (mm pre post ({ f with al := f.al.set slot b })))) :: (dx, AO.attrs (diskFs (g) dt)) :: (g, AO.list (aints [])) :: σ)) : TC c (n + 8) (.glob "block_for") [.ref d, .int u, .ref me, .int pre.length, .int slot, .bool false] ((dt, AO.list (aints (dat (ss) (bs)))) :: (me, AO.list (aints (mm pre post (f)))) :: (dx, AO.attrs (diskFs (g) dt)) :: (g, AO.list (aints [])) :: σ) Q := by
  obtain ⟨h1, h2, k, e, h3, h4, rfl⟩ := hB
  have hsl : slot < 16 := by rw [← hF.al]; exact (List.getElem?_eq_some_iff.mp h1).1
  obtain ⟨f1, f2, f3⟩ := findE_some h3
  have hoe := hs.ok e (List.mem_of_getElem? f1)
  have hoe' : (En.mk e.user e.raw e.ext e.cnt (e.map.set slot b)).Ok := ⟨hoe.raw, by show (e.map.set slot b).length = 16; rw [List.length_set]; exact hoe.map, hoe.user, hoe.ext⟩
  have hF2 : FAt pre post { f with al := f.al.set slot b } := hF.sal (by rw [List.length_set]; exact hF.al) (set_bytes hF.alb ⟨by lia, by lia⟩)
  refine t_fn ["disk", "user", "memory", "at", "slot", "is_blanked"] (f' := "block_for") rfl (fun pm code doc vs hv => by obtain ⟨a0, a1, a2, a3, a4, a5, rfl⟩ := len6 hv; rfl) rfl rfl fun hn => ?_
  repeat tb_rel
  refine c_blocks_at ⟨by boot_fact, by boot_fact⟩ (by boot_fact) hF fun B => ?_
  repeat tb_rel
  refine i_int mem_hd (by rw [Int.toNat_natCast]; exact h1) ?_ (by lia) (by lia)
  repeat tb_rel
  refine c_blocks_at ⟨by boot_fact, by boot_fact⟩ (by boot_fact) hF fun B2 => ?_
  repeat tb_rel
  refine f_maxl mem_hd (by rw [hF.al]; decide) fun M hM hMb => ?_
  have hMe : M = maxI f.al := maxI_spec (.tail _ hM) fun a ha => by
    rcases List.mem_cons.mp ha with q | q
    · rw [q]; exact (hF.alb M hM).1
    · exact hMb a q
  have hM0 := (hF.alb M hM).1
  rw [← hMe] at h2
  obtain ⟨near, rfl⟩ := Int.eq_ofNat_of_zero_le hM0
  refine c_allocate (near := near) ⟨by boot_fact, by boot_fact⟩ (by boot_fact) (by boot_fact) hs h2 ?_
  repeat tb_rel
  refine c_set_block ⟨by boot_fact, by boot_fact⟩ hF hsl ⟨by lia, by lia⟩ (by top_raise0) ?_
  repeat tb_rel
  refine c_name_at (by boot_fact) hF2 fun N => ?_
  repeat tb_rel
  refine c_extent_at (by boot_fact) hF2 ?_
  refine c_find_extent ⟨by boot_fact, by boot_fact⟩ (by boot_fact) hs mem_hd hF.nm hu (fun e0 => by rw [h3] at e0; cases e0) fun k' e' he' t x ex r mp => ?_
  rw [h3] at he'
  cases he'
  unfold entO
  dsimp only [List.cons_append, List.nil_append]
  repeat tb_rel
  refine i_tup (v := .ref x) mem_hd (by decide) (by decide) rfl ?_
  repeat tb_rel
  refine i_int (by boot_fact) (by rw [Int.toNat_natCast]; exact h4) ?_ (by lia) (by lia)
  repeat tb_rel
  refine i_tup (v := .ref x) mem_hd (by decide) (by decide) rfl ?_
  repeat tb_rel
  refine set_list (xs := aints e.map) (by top_raise0) (by lia) (by simp [aints, hoe.map]; lia) (by simp [aints, hoe.map]) ?_
  rw [aints_set, Int.toNat_natCast]
  repeat tb_rel
  refine i_tup (v := .int k) mem_hd (by decide) (by decide) rfl ?_
  repeat tb_rel
  refine i_tup (v := .ref x) mem_hd (by decide) (by decide) rfl ?_
  repeat tb_rel
  refine c_entry_octets (e := ⟨e.user, e.raw, e.ext, e.cnt, e.map.set slot b⟩) (ex := ex) (r := r) (mp := mp) ⟨by boot_fact, by boot_fact⟩ ⟨by boot_fact, (show (ex, AO.attrs (entFs e r mp)) ∈ _ from by boot_fact), by boot_fact, by boot_fact⟩ hoe' fun O => ?_
  repeat tb_rel
  refine c_put_entry (xs := dat ss bs) ⟨by boot_fact, by boot_fact⟩ mem_hd hs.dlen f2 hoe'.get.len (by rw [hs.setSlot f2 hoe']; top_raise0) ?_
  repeat tb_rel
  exact rr (by k_caught0) h
end
set_option maxRecDepth 100000
set_option maxHeartbeats 4000000
section
variable {c : Cx} {n : Nat} {sc : Scope} {σ σ' Z : Hp} {m m' : Lm} {ss : List (Option En)} {bs : List (List Int)}
variable {pre post : List Int} {f : Fcb} {me d dx g dt : Addr}
noncomputable def Dma (pre post : List Int) (dma : Nat) (oc : List Int) : Prop := dma + 8 ≤ 128 ∧ oc.length = 8 ∧ ∀ f', FAt pre post f' → ((mm pre post f').drop dma).take 8 = oc
theorem c_write_here {u v : Int} {slot j dma : Nat} {oc : List Int} {ss' : List (Option En)} {Q : AV → Hp → Prop} (hd1 : (d, .inst c.cD dx) ∈ σ) (hs : Da ss bs) (hF : FAt pre post f) (hu : u ≠ 229) (hcr : f.cr = slot) (hsl : slot < 16)
    (hB : BlkTo ss u f slot (16 + j) ss') (hj : j < 8) (hnm : f.nm[8]? = some v) (hv : v < 128) (hdma : Dma pre post dma oc)
    (h : Q (.int 0) ((dt, AO.list (aints (dat (ss') (bs.set j oc)))) :: (me, AO.list (aints (mm pre post (⟨f.nm, f.ex, true, max f.rc ((slot : Int) + 1), f.al.set slot ((16 + j : Nat) : Int), f.cr⟩)))) :: (dx, AO.attrs (diskFs (g) dt)) :: (g, AO.list (aints [])) :: σ)) :
    TC c (n + 9) (.glob "write_here") [.ref d, .int u, .ref me, .int pre.length, .int dma, .bool false] ((dt, AO.list (aints (dat (ss) (bs)))) :: (me, AO.list (aints (mm pre post (f)))) :: (dx, AO.attrs (diskFs (g) dt)) :: (g, AO.list (aints [])) :: σ) Q := by
  obtain ⟨dm1, dm2, dm3⟩ := hdma
  have hF2 : FAt pre post { f with al := f.al.set slot ((16 + j : Nat) : Int) } := hF.sal (by rw [List.length_set]; exact hF.al) (set_bytes hF.alb ⟨by lia, by lia⟩)
  have hrc := hF.rc
  have hrb : Byte (max f.rc ((slot : Int) + 1)) := ⟨by have := hrc.1; lia, by have := hrc.2; lia⟩
  have hs' := hB.da hs
  refine t_fn ["disk", "user", "memory", "at", "dma", "is_blanked"] (f' := "write_here") rfl (fun pm code doc vs hv => by obtain ⟨a0, a1, a2, a3, a4, a5, rfl⟩ := len6 hv; rfl) rfl rfl fun hn => ?_
  repeat tb_rel
  refine c_current_at (by boot_fact) hF ?_
  rw [hcr]
  repeat tb_rel
  refine c_need_writable_disk ⟨by boot_fact, by boot_fact⟩ ?_
  repeat tb_rel
  refine c_name_at (by boot_fact) hF fun N => ?_
  repeat tb_rel
  refine c_need_writable_file mem_hd hnm hv ?_
  refine s_cons (x_try ?_)
  repeat tb_rel
  refine c_records_of_block ⟨by boot_fact, by boot_fact⟩ ?_
  repeat tb_rel
  rw [show Int.fdiv (slot : Int) 1 = (slot : Int) by rw [Int.fdiv_eq_ediv_of_nonneg _ (by decide)]; lia]
  refine TC.lessH (σ' := (dt, AO.list (aints (dat (ss) (bs)))) :: (me, AO.list (aints (mm pre post (f)))) :: (dx, AO.attrs (diskFs (g) dt)) :: (g, AO.list (aints [])) :: ((N, .list (aints f.nm)) :: σ)) (by k_caught0) ?_
  refine c_block_for (mem_tl hd1) hs hF hu (by lia) hB ?_
  repeat tb_rel
  refine c_records_of_block ⟨by boot_fact, by boot_fact⟩ ?_
  refine b_mod (by decide) ?_
  rw [show Int.fmod (slot : Int) 1 = 0 by rw [Int.fmod_eq_emod_of_nonneg _ (by decide)]; lia]
  repeat tb_rel
  refine c_octets_at (a := dma) (k := 8) (by boot_fact) hF2.len dm1 fun O => ?_
  rw [dm3 _ hF2]
  refine c_write_record (b := oc) ⟨by boot_fact, by boot_fact⟩ mem_hd hs' hj dm2 (by top_raise0) ?_
  repeat tb_rel
  refine c_count_at (by boot_fact) hF2 ?_
  repeat tb_rel
  refine c_set_count hF2 hrb (by top_raise0) ?_
  repeat tb_rel
  have hF3 : FAt pre post ⟨f.nm, f.ex, f.chg, max f.rc ((slot : Int) + 1), f.al.set slot ((16 + j : Nat) : Int), f.cr⟩ := hF2.src hrb
  refine c_mark_changed hF3 (by top_raise0) ?_
  repeat tb_rel
  exact rr (by k_caught0) h
theorem c_write_next {u v : Int} {slot j dma : Nat} {oc : List Int} {s1 ss' : List (Option En)} {f1 : Fcb} {Q : AV → Hp → Prop} (hd1 : (d, .inst c.cD dx) ∈ σ) (hs : Da ss bs) (hF : FAt pre post f) (hu : u ≠ 229) (hg : GoTo ss u f s1 f1) (hcr : f1.cr = slot) (hsl : slot < 16)
    (hB : BlkTo s1 u f1 slot (16 + j) ss') (hj : j < 8) (hnm : f.nm[8]? = some v) (hv : v < 128) (hdma : Dma pre post dma oc)
    (h : ∀ g, Q (.int 0) ((dt, AO.list (aints (dat (ss') (bs.set j oc)))) :: (me, AO.list (aints (mm pre post (⟨f1.nm, f1.ex, true, max f1.rc ((slot : Int) + 1), f1.al.set slot ((16 + j : Nat) : Int), (slot : Int) + 1⟩)))) :: (dx, AO.attrs (diskFs (g) dt)) :: (g, AO.list (aints [])) :: σ)) :
    TC c (n + 10) (.glob "write_next") [.ref d, .int u, .ref me, .int pre.length, .int dma] ((dt, AO.list (aints (dat (ss) (bs)))) :: (me, AO.list (aints (mm pre post (f)))) :: (dx, AO.attrs (diskFs (g) dt)) :: (g, AO.list (aints [])) :: σ) Q := by
  obtain ⟨hs1, hF1, hn1⟩ := hg.da hs hF hu
  have hrc := hF1.rc
  have hrb : Byte (max f1.rc ((slot : Int) + 1)) := ⟨by have := hrc.1; lia, by have := hrc.2; lia⟩
  have hF2 : FAt pre post ⟨f1.nm, f1.ex, true, max f1.rc ((slot : Int) + 1), f1.al.set slot ((16 + j : Nat) : Int), f1.cr⟩ := ((hF1.sal (by rw [List.length_set]; exact hF1.al) (set_bytes hF1.alb ⟨by lia, by lia⟩)).schg (b := true)).src hrb
  refine t_fn ["disk", "user", "memory", "at", "dma"] (f' := "write_next") rfl (fun pm code doc vs hv => by obtain ⟨a0, a1, a2, a3, a4, rfl⟩ := len5 hv; rfl) rfl rfl fun hn => ?_
  repeat tb_rel
  refine c_need_writable_disk ⟨by boot_fact, by boot_fact⟩ ?_
  repeat tb_rel
  refine c_name_at (by boot_fact) hF fun N => ?_
  repeat tb_rel
  refine c_need_writable_file mem_hd hnm hv ?_
  repeat tb_rel
  refine TC.lessH (σ' := (dt, AO.list (aints (dat (ss) (bs)))) :: (me, AO.list (aints (mm pre post (f)))) :: (dx, AO.attrs (diskFs (g) dt)) :: (g, AO.list (aints [])) :: σ) (by k_caught0) ?_
  refine c_go_on hd1 hs hF hu hg fun g => ?_
  repeat tb_rel
  refine c_write_here hd1 hs1 hF1 hu hcr hsl hB hj (by rw [hn1]; exact hnm) hv hdma ?_
  repeat tb_rel
  refine c_current_at (by boot_fact) hF2 ?_
  rw [hcr]
  repeat tb_rel
  have hF3 : FAt pre post ⟨f1.nm, f1.ex, true, max f1.rc ((slot : Int) + 1), f1.al.set slot ((16 + j : Nat) : Int), (slot : Int)⟩ := ⟨⟨hF2.nm, hF2.al, hF2.ex, hF2.rc, ⟨by show 0 ≤ (slot : Int); lia, by show (slot : Int) < 256; lia⟩, hF2.alb⟩, hF2.total⟩
  refine c_set_current hF3 ⟨by lia, by lia⟩ (by top_raise0) ?_
  repeat tb_rel
  exact rr .refl (h g)
end
set_option maxRecDepth 100000
set_option maxHeartbeats 4000000
section
variable {c : Cx} {n : Nat} {sc : Scope} {σ σ' Z : Hp} {m m' : Lm} {ss : List (Option En)} {bs : List (List Int)}
noncomputable def ss0 : List (Option En) := [none, none, none, none]
noncomputable def bs0 : List (List Int) := List.replicate 8 (List.replicate 8 229)
theorem dat0 : dat ss0 bs0 = List.replicate 192 229 := by decide +kernel
theorem da0 : Da ss0 bs0 := ⟨rfl, fun e he => by simp [ss0] at he, rfl, fun b hb => by rw [List.eq_of_mem_replicate hb]; rfl⟩
theorem c_Disk {Q : AV → Hp → Prop}
    (h : ∀ d dx g dt, Q (.ref d) ((dt, .list (aints (dat ss0 bs0))) :: (dx, .attrs (diskFs g dt)) :: (g, .list (aints [])) :: (d, .inst c.cD dx) :: σ)) : TCC c (n + 2) c.cD [.int 24, .int 8, .int 8, .int 4] σ Q := by
  refine new_run (d := ⟨_, _, _, _⟩) (qual := "Disk.__init__") (ns := ["self", "blocks", "block", "record", "entries"]) (.inl rfl) (c.initD _ rfl) (fun pm code doc ct vs hv => by obtain ⟨a, b, d, e, f, rfl⟩ := len5 hv; rfl) rfl rfl fun x dx => ends ?_
  dsimp only
  repeat tb_rel
  rename_i G B D
  have e1 : (List.replicate (Int.toNat (24 * 8)) [AV.int 229]).flatten = aints (dat ss0 bs0) := by rw [dat0]; simp [aints]
  rw [e1]
  refine rn (σ' := (D, .list (aints (dat ss0 bs0))) :: (dx, .attrs (diskFs G D)) :: (G, .list (aints [])) :: (x, .inst c.cD dx) :: σ) ?_ ⟨rfl, h x dx G D⟩
  show Less _ ((D, _) :: _ :: (G, .list (aints [])) :: (x, _) :: (dx, .attrs (diskFs G D)) :: _)
  k_caught0
theorem c_law_lost {d dx g dt : Addr} {Q : AV → Hp → Prop} (hd : Dk c σ d dx g dt) (hx : (dt, .list (aints (dat ss bs))) ∈ σ) (hs : Da ss bs)
    (h : ∀ d dx g dt, Q (.ref d) ((dt, .list (aints (dat ss bs))) :: (dx, .attrs (diskFs g dt)) :: (g, .list (aints [])) :: (d, .inst c.cD dx) :: σ)) : TC c (n + 3) (.glob "_law_lost") [.ref d] σ Q := by
  have ⟨d1, d2⟩ := hd
  refine t_fn ["disk"] (f' := "_law_lost") rfl (fun pm code doc vs hv => by obtain ⟨a0, rfl⟩ := len1 hv; rfl) rfl rfl fun hn => ?_
  repeat tb_rel
  refine c_Disk fun d' dx' g' dt' => ?_
  repeat tb_rel
  refine f_list (by boot_fact) (fun D => ?_) (by simp [aints, hs.dlen])
  repeat tb_rel
  rw [show fput (diskFs g' dt') "data" (.ref D) = diskFs g' D from rfl]
  exact rr (by k_caught0) (h _ _ _ _)
theorem fmod_nat {x : Int} {k : Nat} (hk : 0 < k) : ∃ v : Nat, v < k ∧ Int.fmod x k = v := by
  have h1 := Int.fmod_nonneg_of_pos x (show (0 : Int) < k by lia)
  have h2 := Int.fmod_lt_of_pos x (show (0 : Int) < k by lia)
  exact ⟨(Int.fmod x k).toNat, by lia, by lia⟩
theorem c_law_next {F cl : Addr} {cs : List Int} {t k : Nat} {Q : AV → Hp → Prop} (hc : (cl, .list (aints cs)) ∈ σ) (hcl : cs.length ≤ 1000) (ht : t < 1000) (hk : 0 < k ∧ k < 1000)
    (hu : Mine.Upd σ F (.list [.ref cl, .int t]) (.list [.ref cl, .int ((t + 1 : Nat) : Int)]) σ') (h : ∀ v : Nat, v < k → Q (.int v) σ') : TC c (n + 1) (.glob "_law_next") [.ref F, .int k] σ Q := by
  have hFm := hu.mem
  have hne : AO.list (aints cs) ≠ AO.list [.ref cl, .int t] := by
    intro e
    cases cs with
    | nil => simp [aints] at e
    | cons a as => simp [aints] at e
  refine t_fn ["feed", "many"] (f' := "_law_next") rfl (fun pm code doc vs hv => by obtain ⟨a0, a1, rfl⟩ := len2 hv; rfl) rfl rfl fun hn => ?_
  have hc' := Upd.mem_of hn hu hc hne
  repeat tb_rel
  refine set_list (xs := [.ref cl, .int t]) (by show Mine.Upd _ _ _ (.list [.ref cl, .int ((t : Int) + 1)]) _; exact hu) (by decide) (by simp) (by simp) ?_
  repeat tb_rel
  refine f_len hc' ?_ (by simp [aints]; lia)
  rw [show (aints cs).length = cs.length by simp [aints]]
  repeat tb_rel
  have hb : (k : Int) ≠ 0 := by lia
  by_cases q : t < cs.length
  · obtain ⟨v, hv⟩ : ∃ v, cs[t]? = some v := ⟨_, List.getElem?_eq_getElem q⟩
    repeat tb_rel
    refine i_int hc' (by rw [Int.toNat_natCast]; exact hv) ?_ (by lia) (by lia)
    repeat tb_rel
    refine b_mod hb ?_
    obtain ⟨w, hw, e⟩ := fmod_nat (x := (v.natAbs : Int)) hk.1
    rw [e]
    exact rr .refl (h w hw)
  · skip
    repeat tb_rel
    refine f_len hc' ?_ (by simp [aints]; lia)
    repeat tb_rel
    refine b_mod hb ?_
    obtain ⟨w, hw, e⟩ := fmod_nat (x := 59 * (t : Int) + Int.fdiv ((t : Int) * t) 3 + 7 + ((aints cs).length : Int)) hk.1
    rw [e]
    exact rr .refl (h w hw)
end
set_option maxRecDepth 100000
set_option maxHeartbeats 4000000
section
variable {c : Cx} {n : Nat} {sc : Scope} {σ σ' Z : Hp} {m m' : Lm} {ss : List (Option En)} {bs : List (List Int)}
noncomputable def octs (w r : Nat) : List Int := (List.range 8).map fun i => (((90 * w + 17 * r + 5 * i + 1) % 256 : Nat) : Int)
noncomputable def octsN (w r k : Nat) : List Int := (List.range k).map fun i => (((90 * w + 17 * r + 5 * i + 1) % 256 : Nat) : Int)
theorem c_law_octets {w r : Nat} {Q : AV → Hp → Prop} (hw : w < 1000) (hr : r < 1000) (h : ∀ D, Q (.ref D) ((D, .list (aints (octs w r))) :: σ)) : TC c (n + 1) (.glob "_law_octets") [.int w, .int r] σ Q := by
  refine t_fn ["which", "record"] (f' := "_law_octets") rfl (fun pm code doc vs hv => by obtain ⟨a0, a1, rfl⟩ := len2 hv; rfl) rfl rfl fun hn => ?_
  refine s_cons (x_ret (t_comp (TIt.range ?_ (by top_args) (by top_args)) (by top_args)))
  repeat tb_rel
  refine ⟨8, rfl, by decide, fun i τ acc => τ = σ ∧ acc = aints (octsN w r i), ⟨rfl, rfl⟩, by decide, ?_, ?_⟩
  · rintro i iv τ acc hi ⟨rfl, rfl⟩
    obtain ⟨hk, rfl⟩ := upto_get hi
    repeat tb_rel
    refine ⟨rfl, ?_⟩
    rw [show Int.fmod (90 * (w : Int) + 17 * (r : Int) + 5 * (i : Int) + 1) 256 = (((90 * w + 17 * r + 5 * i + 1) % 256 : Nat) : Int) by rw [Int.fmod_eq_emod_of_nonneg _ (by decide)]; lia]
    simp [octsN, aints, List.range_succ]
  · rintro τ acc ⟨rfl, rfl⟩ D
    rw [upto_len]
    exact rr .refl (h D)
noncomputable def nats (xs : List Nat) : List Int := xs.map fun (r : Nat) => (r : Int)
noncomputable def mostN (xs : List Nat) : Nat := xs.foldl (fun a r => max a (r + 1)) 0
theorem most_spec {xs : List Nat} {M : Int} (h : M ∈ -1 :: nats xs) (hb : ∀ a ∈ -1 :: nats xs, a ≤ M) : M + 1 = (mostN xs : Nat) := by
  suffices H : ∀ (xs : List Nat) (z : Nat), M ∈ ((z : Int) - 1) :: nats xs → (∀ a ∈ ((z : Int) - 1) :: nats xs, a ≤ M) → M + 1 = ((xs.foldl (fun a r => max a (r + 1)) z : Nat) : Int) from H xs 0 h hb
  intro xs
  induction xs with
  | nil => intro z h hb; simp [nats] at h ⊢; lia
  | cons x xs ih =>
    intro z h hb
    rw [List.foldl_cons]
    have hz := hb _ (.head _)
    have hx : (x : Int) ≤ M := hb x (.tail _ (.head _))
    refine ih _ ?_ fun a ha => ?_
    · rcases List.mem_cons.mp h with q | q
      · rw [show ((max z (x + 1) : Nat) : Int) - 1 = M by lia]; exact .head _
      · rcases List.mem_cons.mp q with q | q
        · have q' : M = (x : Int) := q
          rw [show ((max z (x + 1) : Nat) : Int) - 1 = M by lia]; exact .head _
        · exact .tail _ q
    · rcases List.mem_cons.mp ha with q | q
      · lia
      · exact hb a (.tail _ (.tail _ q))
theorem nats_contains {xs : List Nat} {r : Nat} : (nats xs).contains (r : Int) = xs.contains r := by
  induction xs with
  | nil => rfl
  | cons x xs ih =>
    show ((r : Int) == (x : Int) || (nats xs).contains (r : Int)) = (r == x || xs.contains r)
    rw [ih]
    have : ((r : Int) == (x : Int)) = (r == x) := by rw [Bool.eq_iff_iff, beq_iff_eq, beq_iff_eq]; lia
    rw [this]
/-- what is told of a file -/
structure Told (ss : List (Option En)) (bs : List (List Int)) (w : Nat) (nm : List Int) (cl : List Nat) : Prop where
  size : sizeP ss w nm = (mostN cl : Nat)
  inn : ∀ r ∈ cl, readP ss bs w nm r = some (octs w r)
  out : ∀ r : Nat, (r = 0 ∨ r + 1 = mostN cl ∨ r = mostN cl) → r ∉ cl → readP ss bs w nm r = none
  small : ∀ r ∈ cl, r < 900
  len : cl.length ≤ 900
noncomputable def extras (k : Nat) : List Int := [0, (k : Int) - 1, k]
theorem c_law_is_told {d dx g dt nmA clA : Addr} {w : Nat} {nm : List Int} {cl : List Nat} {Q : AV → Hp → Prop} (hd : Dk c σ d dx g dt) (hx : (dt, .list (aints (dat ss bs))) ∈ σ) (hs : Da ss bs) (hnm : (nmA, .list (aints nm)) ∈ σ) (hnl : nm.length = 11) (hw : w < 200)
    (hcl : (clA, .list (aints (nats cl))) ∈ σ) (hok : okL [] (liveP ss) = true) (ht : Told ss bs w nm cl)
    (h : Q (.bool true) σ) : TC c (n + 7) (.glob "_law_is_told") [.ref d, .int w, .ref nmA, .ref clA] σ Q := by
  have ⟨d1, d2⟩ := hd
  have hcll := ht.len
  refine t_fn ["disk", "which", "name", "closed"] (f' := "_law_is_told") rfl (fun pm code doc vs hv => by obtain ⟨a0, a1, a2, a3, rfl⟩ := len4 hv; rfl) rfl rfl fun hn => ?_
  repeat tb_rel
  refine b_addl mem_hd (mem_tl hcl) (fun S => ?_) (by simp [aints, nats]; lia)
  have e1 : [AV.int (0 - 1)] ++ aints (nats cl) = aints (-1 :: nats cl) := by simp [aints]
  rw [e1]
  repeat tb_rel
  refine f_maxl mem_hd (by simp) fun M hM hMb => ?_
  have hMe := most_spec hM hMb
  repeat tb_rel
  rw [hMe]
  refine c_size_of (hd.up (by top_caught0)) (by boot_fact) hs (by boot_fact) hnl (by lia) ?_
  repeat tb_rel
  rw [ht.size]
  repeat tb_rel
  refine x_for (it_list (t_bin (t_name rfl ?_)))
  refine t_comp (it_tup ?_) (by top_args)
  repeat tb_rel
  rename_i T
  refine ⟨T, _, _, rfl, .head, fun i ρ acc => ρ = (S, .list (aints (-1 :: nats cl))) :: _ ∧ acc = aints (((extras (mostN cl)).take i).filter fun r => !(nats cl).contains r), ⟨rfl, rfl⟩, by simp, ?_, ?_⟩
  · rintro i iv ρ acc hi ⟨rfl, rfl⟩
    obtain ⟨a, ha, rfl⟩ := map_get hi
    obtain ⟨v, hv, rfl⟩ : ∃ v, (extras (mostN cl))[i]? = some v ∧ a = .int v := aints_get (xs := extras (mostN cl)) ha
    repeat tb_rel
    refine cm_notin (by boot_fact) ?_
    cases q : (nats cl).contains v with
    | true =>
      refine ⟨fun _ => ⟨rfl, ?_⟩, fun z => by cases z⟩
      rw [List.take_add_one, hv]
      simp only [Option.toList_some, List.filter_append, List.filter_cons, q, List.filter_nil, Bool.not_true, if_neg Bool.false_ne_true, List.append_nil]
    | false =>
      refine ⟨fun z => (by cases z), fun _ => ?_⟩
      repeat tb_rel
      refine ⟨rfl, ?_⟩
      rw [List.take_add_one, hv]
      simp only [Option.toList_some, List.filter_append, List.filter_cons, q, List.filter_nil, Bool.not_false, if_pos]
      simp [aints]
  · rintro ρ acc ⟨rfl, rfl⟩ E
    dsimp only [List.cons_append, List.nil_append]
    rw [show ((extras (mostN cl)).take (List.map IV.val [AV.int 0, AV.int ((mostN cl : Int) - 1), AV.int (mostN cl : Int)]).length) = extras (mostN cl) from rfl]
    generalize hEx : (extras (mostN cl)).filter (fun r => !(nats cl).contains r) = Ex
    have hExl : Ex.length ≤ 3 := by rw [← hEx]; exact List.length_filter_le _ _
    refine b_addl (by boot_fact) mem_hd (fun L => ?_) (by simp [aints, nats]; lia)
    have e2 : aints (nats cl) ++ aints Ex = aints (nats cl ++ Ex) := by simp [aints]
    rw [e2]
    refine ⟨L, _, _, rfl, .head, fun i ρ => ρ = σ, wk (by k_caught0) rfl, ?_, ?_⟩
    · rintro i iv ρ hi rfl
      obtain ⟨a, ha, rfl⟩ := map_get hi
      obtain ⟨r, hr, rfl⟩ := aints_get ha
      have hmem := List.mem_of_getElem? hr
      repeat tb_rel
      refine cm_in (by boot_fact) ?_
      cases q : (nats cl).contains r with
      | true =>
        have hmr : r ∈ nats cl := by simpa only [List.contains_iff_mem] using q
        obtain ⟨k, hk, hke⟩ := List.mem_map.mp hmr
        have hke : (k : Int) = r := hke
        subst hke
        have hks := ht.small k hk
        repeat tb_rel
        refine c_law_octets (by lia) (by lia) fun D => ?_
        repeat tb_rel
        refine c_read_at (r := k) (hd.up (by top_caught0)) (mem_tl hx) hs (mem_tl hnm) hnl (by lia) hok (fun e0 => by rw [ht.inn k hk] at e0; cases e0) fun xs hxs B => ?_
        rw [ht.inn k hk] at hxs
        cases hxs
        repeat tb_rel
        refine cm_nel mem_hd (mem_tl mem_hd) ?_
        repeat tb_rel
        exact en (.drop (.drop .refl)) (has2 rfl rfl) rfl
      | false =>
        have hx3 : r ∈ extras (mostN cl) := by
          rcases List.mem_append.mp hmem with z | z
          · rw [show (nats cl).contains r = true by simpa using z] at q; cases q
          · rw [← hEx] at z; exact (List.mem_filter.mp z).1
        repeat tb_rel
        by_cases q0 : 0 ≤ r
        · obtain ⟨k, rfl⟩ := Int.eq_ofNat_of_zero_le q0
          rw [nats_contains] at q
          have hk : k ∉ cl := by simpa using q
          have hx4 : (k : Int) = 0 ∨ (k : Int) = (mostN cl : Int) - 1 ∨ (k : Int) = (mostN cl : Int) := by simpa only [extras, List.mem_cons, List.not_mem_nil, or_false] using hx3
          have hkc : k = 0 ∨ k + 1 = mostN cl ∨ k = mostN cl := by lia
          repeat tb_rel
          refine c_read_at (r := k) hd hx hs hnm hnl (by lia) hok (fun _ => ?_) fun xs hxs B => by rw [ht.out k hkc hk] at hxs; cases hxs
          repeat tb_rel
          refine cm_ne_none ?_
          repeat tb_rel
          exact en .refl (has2 rfl rfl) rfl
        · skip
          repeat tb_rel
          exact en .refl (has2 rfl rfl) rfl
    · rintro ρ rfl
      refine wk (.drop .refl) ?_
      repeat tb_rel
      exact rr .refl h
theorem aints_ne {xs : List Int} {a : Addr} {l : List AV} : AO.list (aints xs) ≠ AO.list (.ref a :: l) := by
  intro e
  cases xs with
  | nil => simp [aints] at e
  | cons x xs => simp [aints] at e
/-- a file of the law -/
structure FileAt (σ : Hp) (F : Addr) (nm : List Int) (r : Int) (cl wt : List Nat) (nA cA wA : Addr) : Prop where
  f : (F, .list [.ref nA, .int r, .ref cA, .ref wA]) ∈ σ
  n : (nA, .list (aints nm)) ∈ σ
  c : (cA, .list (aints (nats cl))) ∈ σ
  w : (wA, .list (aints (nats wt))) ∈ σ
theorem c_law_is_sound {d dx g dt fl F0 F1 n0 n1 c0 c1 w0 w1 : Addr} {nm0 nm1 : List Int} {r0 r1 : Int} {cl0 cl1 wt0 wt1 : List Nat} {many : Nat} {Q : AV → Hp → Prop} (hd : Dk c σ d dx g dt) (hx : (dt, .list (aints (dat ss bs))) ∈ σ) (hg : (g, .list (aints [])) ∈ σ) (hs : Da ss bs)
    (hfl : (fl, .list [.ref F0, .ref F1]) ∈ σ) (h0 : FileAt σ F0 nm0 r0 cl0 wt0 n0 c0 w0) (h1 : FileAt σ F1 nm1 r1 cl1 wt1 n1 c1 w1) (hl0 : nm0.length = 11) (hl1 : nm1.length = 11)
    (hok : okL [] (liveP ss) = true) (hfree : (freeI (usedP ss) 24).length + many = 8) (t0 : Told ss bs 0 nm0 cl0) (t1 : Told ss bs 1 nm1 cl1)
    (h : Q (.bool true) σ) : TC c (n + 8) (.glob "_law_is_sound") [.ref d, .ref fl, .int many] σ Q := by
  have ⟨d1, d2⟩ := hd
  refine t_fn ["disk", "files", "many"] (f' := "_law_is_sound") rfl (fun pm code doc vs hv => by obtain ⟨a0, a1, a2, rfl⟩ := len3 hv; rfl) rfl rfl fun hn => ?_
  repeat tb_rel
  refine c_faults_of hd hx hs hok fun B => ?_
  repeat tb_rel
  rename_i E
  refine cm_nel (xs := []) (ys := []) (mem_tl mem_hd) mem_hd ?_
  repeat tb_rel
  refine c_free_blocks (hd.up (by top_caught0)) (by boot_fact) (by boot_fact) hs fun F => ?_
  repeat tb_rel
  refine f_len mem_hd ?_ (by simp [aints]; lia)
  rw [show ((aints (freeI (usedP ss) 24)).length : Int) = 8 - (many : Int) by simp [aints]; lia]
  repeat tb_rel
  have hf0 := h0.f
  have hf1 := h1.f
  obtain ⟨σ0, hpk⟩ := Pick.exists hfl
  have g1 : Dk c σ0 d dx g dt := ⟨hpk.rest d1 (by simp), hpk.rest d2 (by simp)⟩
  have g2 := hpk.rest hx (fun e => aints_ne (congrArg Prod.snd e))
  have g3 := hpk.rest hf0 (by simp)
  have g4 := hpk.rest hf1 (by simp)
  have g5 := hpk.rest h0.n (fun e => aints_ne (congrArg Prod.snd e))
  have g6 := hpk.rest h1.n (fun e => aints_ne (congrArg Prod.snd e))
  have g7 := hpk.rest h0.c (fun e => aints_ne (congrArg Prod.snd e))
  have g8 := hpk.rest h1.c (fun e => aints_ne (congrArg Prod.snd e))
  refine t_comp (TIt.enum ?_ (by top_args) (by top_args)) (by top_args)
  repeat tb_rel
  refine ⟨fl, _, _, rfl, .tail (.tail (.tail hpk)), fun i ρ acc => ρ = (F, .list (aints (freeI (usedP ss) 24))) :: (E, .list []) :: (B, .list (aints [])) :: σ0 ∧ acc = [], ⟨rfl, rfl⟩, by simp [enumL], ?_, ?_⟩
  · rintro i iv ρ acc hi ⟨rfl, rfl⟩
    obtain ⟨a, ha, rfl⟩ := enumL_get hi
    match i, ha with
    | 0, ha =>
      cases ha
      repeat tb_rel
      refine i_list (by boot_fact) (by decide) (by decide) rfl ?_
      repeat tb_rel
      refine i_list (by boot_fact) (by decide) (by decide) rfl ?_
      refine c_law_is_told (w := 0) (g1.up (by top_caught0)) (by boot_fact) hs (by boot_fact) hl0 (by decide) (by boot_fact) hok t0 ?_
      repeat tb_rel
      exact ⟨rfl, rfl⟩
    | 1, ha =>
      cases ha
      repeat tb_rel
      refine i_list (by boot_fact) (by decide) (by decide) rfl ?_
      repeat tb_rel
      refine i_list (by boot_fact) (by decide) (by decide) rfl ?_
      refine c_law_is_told (w := 1) (g1.up (by top_caught0)) (by boot_fact) hs (by boot_fact) hl1 (by decide) (by boot_fact) hok t1 ?_
      repeat tb_rel
      exact ⟨rfl, rfl⟩
    | i + 2, ha => cases ha
  · rintro ρ acc ⟨rfl, rfl⟩ D
    dsimp only [List.cons_append, List.nil_append]
    repeat tb_rel
    rename_i Y
    refine cm_eql (xs := []) (ys := []) (mem_tl mem_hd) mem_hd ?_
    repeat tb_rel
    refine rr ?_ h
    refine Less.trans (Less.perm hpk.perm.symm) ?_
    exact .drop (.drop (.both (.drop (.drop (.drop .refl)))))
end
set_option maxRecDepth 100000
set_option maxHeartbeats 4000000
section
variable {c : Cx} {n : Nat} {sc : Scope} {σ σ' Z : Hp} {m m' : Lm} {ss : List (Option En)} {bs : List (List Int)}
theorem c_need_changeable {L : Addr} {ps : List (Nat × En)} {us : List AV} {τ : Hp} {Q : AV → Hp → Prop} (hP : Prs c ps us τ) (hl : ps.length ≤ 1000) (hall : ∀ p ∈ ps, ∃ v, p.2.raw[8]? = some v ∧ v < 128)
    (h : Q .none ((L, .list us) :: (τ ++ σ))) : TC c (n + 2) (.glob "need_changeable") [.ref L] ((L, .list us) :: (τ ++ σ)) Q := by
  refine t_fn ["pairs"] (f' := "need_changeable") rfl (fun pm code doc vs hv => by obtain ⟨a0, rfl⟩ := len1 hv; rfl) rfl rfl fun hn => ?_
  repeat tb_rel
  refine t_comp (it_list ?_) (by top_args)
  repeat tb_rel
  refine ⟨L, us, _, rfl, .head, fun i ρ acc => ρ = τ ++ σ ∧ acc = abools (List.replicate i false), ⟨rfl, rfl⟩, by rw [List.length_map, hP.len]; lia, ?_, ?_⟩
  · rintro i iv ρ acc hi ⟨rfl, rfl⟩
    obtain ⟨a, hu', rfl⟩ := map_get hi
    obtain ⟨k, e, t, x, ex, r, mp, e1, rfl, hT⟩ := hP.take hu'
    have hT' := hT.appR σ
    have q1 : (t, AO.tup [.int k, .ref x]) ∈ τ ++ σ := hT'.mem (.head _)
    have q2 : (x, AO.inst c.cE ex) ∈ τ ++ σ := hT'.mem (.tail _ (.head _))
    have q3 : (ex, AO.attrs (entFs e r mp)) ∈ τ ++ σ := hT'.mem (.tail _ (.tail _ (.head _)))
    have q4 : (r, AO.list (aints e.raw)) ∈ τ ++ σ := hT'.mem (.tail _ (.tail _ (.tail _ (.head _))))
    obtain ⟨v, hv, hlt⟩ := hall _ (List.mem_of_getElem? e1)
    repeat tb_rel
    refine c_has_flag (k := 8) q4 hv (by decide) ?_
    refine ⟨rfl, ?_⟩
    rw [show decide (128 ≤ v) = false by simp; lia, List.replicate_succ']
    simp [abools]
  · rintro ρ acc ⟨rfl, rfl⟩ B
    dsimp only [List.cons_append, List.nil_append]
    repeat tb_rel
    refine f_any mem_hd ?_
    rw [show (List.replicate (us.map IV.val).length false).any id = false by simp]
    repeat tb_rel
    exact rn (.drop .refl) h
noncomputable def lastP (ss : List (Option En)) (u : Int) (pat : List Int) : Int := maxI ((findP ss u pat).flatMap fun p => p.2.map)
theorem flat16 : ∀ {ps : List (Nat × En)}, (∀ p ∈ ps, p.2.map.length = 16) → (ps.flatMap fun p => p.2.map).length = 16 * ps.length
  | [], _ => rfl
  | p :: ps, h => by
    rw [List.flatMap_cons, List.length_append, h p (.head _), flat16 fun q hq => h q (.tail _ hq), List.length_cons]; lia
theorem c_last_block {d dx g dt p : Addr} {u : Int} {pat : List Int} {Q : AV → Hp → Prop} (hd : Dk c σ d dx g dt) (hx : (dt, .list (aints (dat ss bs))) ∈ σ) (hs : Da ss bs) (hp : (p, .list (aints pat)) ∈ σ) (hpl : pat.length = 11) (hu : u ≠ 229)
    (h : Q (.int (lastP ss u pat)) σ) : TC c (n + 5) (.glob "last_block") [.ref d, .int u, .ref p] σ Q := by
  have ⟨h1, h2⟩ := hd
  refine t_fn ["disk", "user", "raw"] (f' := "last_block") rfl (fun pm code doc vs hv => by obtain ⟨a0, a1, a2, rfl⟩ := len3 hv; rfl) rfl rfl fun hn => ?_
  repeat tb_rel
  rename_i B
  refine t_comp2 (it_list ?_) (by top_args)
  repeat tb_rel
  refine c_find (hd.up (by top_caught0)) (by boot_fact) hs (by boot_fact) hpl hu fun L us τ hP => ?_
  have hl4 : (findP ss u pat).length ≤ 4 := findN_len
  have h16 : ∀ p ∈ findP ss u pat, p.2.map.length = 16 := fun p hp => (hs.ok p.2 (List.mem_of_getElem? (find_mem (k := p.1) (e := p.2) hp).1)).map
  have hb : ∀ i, (((findP ss u pat).take i).flatMap fun p => p.2.map).length ≤ 64 := fun i => by
    rw [flat16 fun p hp => h16 p (List.mem_of_mem_take hp), List.length_take]; lia
  refine ⟨L, us, _, rfl, .head, fun i ρ acc => Less (τ ++ (B, .list [.int 0]) :: σ) ρ ∧ acc = aints (((findP ss u pat).take i).flatMap fun p => p.2.map), ⟨.refl, rfl⟩, ?_, ?_⟩
  · rintro i iv ρ acc hi ⟨hρ, rfl⟩
    obtain ⟨a, hu', rfl⟩ := map_get hi
    obtain ⟨k, e, t, x, ex, r, mp, e1, rfl, hT⟩ := hP.take hu'
    have hT' := (hT.appR ((B, .list [.int 0]) :: σ)).trans hρ
    have q1 : (t, AO.tup [.int k, .ref x]) ∈ ρ := hT'.mem (.head _)
    have q2 : (x, AO.inst c.cE ex) ∈ ρ := hT'.mem (.tail _ (.head _))
    have q3 : (ex, AO.attrs (entFs e r mp)) ∈ ρ := hT'.mem (.tail _ (.tail _ (.head _)))
    have q5 : (mp, AO.list (aints e.map)) ∈ ρ := hT'.mem (.tail _ (.tail _ (.tail _ (.tail _ (.head _)))))
    obtain ⟨σ0, hpk⟩ := Pick.exists q5
    repeat tb_rel
    refine it_list ?_
    repeat tb_rel
    refine ⟨mp, _, _, rfl, hpk, fun j ρ' acc => ρ' = σ0 ∧ acc = aints ((((findP ss u pat).take i).flatMap fun p => p.2.map) ++ e.map.take j), ⟨rfl, by simp⟩, ?_, ?_, ?_⟩
    · rintro j ρ' acc ⟨rfl, rfl⟩
      have := hb i
      have := h16 _ (List.mem_of_getElem? e1)
      simp [aints]
      simp at this
      have := hb i
      simp at this
      lia
    · rintro j jv ρ' acc hj ⟨rfl, rfl⟩
      obtain ⟨b, hb, rfl⟩ := map_get hj
      obtain ⟨v, hv, rfl⟩ := aints_get hb
      repeat tb_rel
      refine ⟨rfl, ?_⟩
      rw [List.take_add_one, hv]; simp [aints]
    · rintro ρ' acc ⟨rfl, rfl⟩
      refine ⟨hρ.trans (Less.perm hpk.perm.symm), ?_⟩
      rw [List.length_map, show (aints e.map).length = e.map.length by simp [aints], List.take_length, List.take_add_one, e1, List.flatMap_append]; simp
  · rintro ρ acc ⟨hρ, rfl⟩ D
    rw [List.length_map, hP.len, List.take_length]
    have hB : (B, AO.list [.int 0]) ∈ ρ := hρ.mem (List.mem_append_right _ (.head _))
    dsimp only [List.cons_append, List.nil_append]
    refine b_addl (mem_tl (mem_tl hB)) mem_hd (fun S => ?_) (by have := hb 4; rw [List.take_of_length_le hl4] at this; simp [aints]; simp at this; lia)
    have e1 : [AV.int 0] ++ aints ((findP ss u pat).flatMap fun p => p.2.map) = aints (0 :: ((findP ss u pat).flatMap fun p => p.2.map)) := by simp [aints]
    rw [e1]
    repeat tb_rel
    refine f_maxl mem_hd (by simp) fun M hM hMb => ?_
    refine rr (σ' := σ) ?_ ?_
    · refine .drop (.drop (.drop (Less.trans ?_ hρ)))
      exact .right _ (.drop .refl)
    · rw [show M = lastP ss u pat from maxI_spec hM hMb]; exact h
end
set_option maxRecDepth 100000
set_option maxHeartbeats 4000000
section
variable {c : Cx} {n : Nat} {sc : Scope} {σ σ' Z : Hp} {m m' : Lm} {ss : List (Option En)} {bs : List (List Int)}
noncomputable def En.wrote (e : En) (slot b : Nat) : En := ⟨e.user, e.raw, e.ext, max e.cnt ((slot : Int) + 1), e.map.set slot b⟩
theorem c_write_at {d dx g dt p o : Addr} {u : Int} {pat oc : List Int} {r k j : Nat} {e : En} {Q : AV → Hp → Prop} (hd : Dk c σ d dx g dt) (hg : (g, .list (aints [])) ∈ σ) (hs : Da ss bs) (hp : (p, .list (aints pat)) ∈ σ) (hpl : pat.length = 11) (ho : (o, .list (aints oc)) ∈ σ) (hol : oc.length = 8) (hu : u ≠ 229)
    (hr : r < 16) (hall : ∀ p ∈ findP ss u pat, ∃ v, p.2.raw[8]? = some v ∧ v < 128) (he : findE ss u pat 0 = some (k, e)) (h0 : e.map[r]? = some 0) (hj : j < 8) (hlast : 0 ≤ lastP ss u pat)
    (hnear : nearP (usedP ss) 48 (min (lastP ss u pat).toNat 24) (lastP ss u pat).toNat = some (16 + j))
    (hup : Mine.Upd σ dt (.list (aints (dat ss bs))) (.list (aints (dat (ss.set k (some (e.wrote r (16 + j)))) (bs.set j oc)))) σ') (h : Q .none σ') :
    TC c (n + 9) (.glob "write_at") [.ref d, .int u, .ref p, .int r, .ref o] σ Q := by
  refine TC.upd hup h fun σr hm hnd => ?_
  have d1 := hm _ hd.1 (by simp)
  have d2 := hm _ hd.2 (by simp)
  have hlen : ∀ {xs : List Int}, xs.length ≠ 192 → AO.list (aints xs) ≠ AO.list (aints (dat ss bs)) := fun hne e => by
    have := congrArg (fun o => match o with | AO.list l => l.length | _ => 0) e
    simp [aints, hs.dlen] at this
    exact hne this
  have g1 := hm _ hg (hlen (by decide))
  have p1 := hm _ hp (hlen (by lia))
  have o1 := hm _ ho (hlen (by lia))
  clear hm
  obtain ⟨f1, f2, f3⟩ := findE_some he
  have hoe := hs.ok e (List.mem_of_getElem? f1)
  have hoe' : (e.wrote r (16 + j)).Ok := ⟨hoe.raw, by show (e.map.set r _).length = 16; rw [List.length_set]; exact hoe.map, hoe.user, hoe.ext⟩
  obtain ⟨near, hN⟩ := Int.eq_ofNat_of_zero_le hlast
  rw [hN] at hnear
  rw [show ((near : Int)).toNat = near by simp] at hnear
  refine t_fn ["disk", "user", "raw", "record", "octets"] (f' := "write_at") rfl (fun pm code doc vs hv => by obtain ⟨a0, a1, a2, a3, a4, rfl⟩ := len5 hv; rfl) rfl rfl fun hn => ?_
  repeat tb_rel
  refine c_need_writable ⟨by boot_fact, by boot_fact⟩ ?_
  repeat tb_rel
  refine c_find ⟨by boot_fact, by boot_fact⟩ mem_hd hs (by boot_fact) hpl hu fun L us τ hP => ?_
  repeat tb_rel
  refine c_need_changeable hP (Nat.le_trans (findN_len (i := 4)) (by decide)) hall ?_
  refine TS.lessH (σ' := (dt, .list (aints (dat ss bs))) :: σr) (.drop (.right _ .refl)) ?_
  repeat tb_rel
  refine c_place_of ⟨by boot_fact, by boot_fact⟩ fun t => ?_
  rw [show r / 16 = 0 by lia, show r % 16 = r by lia]
  repeat tb_rel
  refine c_find_extent ⟨by boot_fact, by boot_fact⟩ (by boot_fact) hs (by boot_fact) hpl hu (fun e0 => by rw [show ((0 : Nat) : Int) = 0 from rfl, he] at e0; cases e0) fun k' e' he' t x ex r' mp => ?_
  rw [show ((0 : Nat) : Int) = 0 from rfl, he] at he'
  cases he'
  unfold entO
  dsimp only [List.cons_append, List.nil_append]
  repeat tb_rel
  refine c_records_of_block ⟨by boot_fact, by boot_fact⟩ ?_
  repeat tb_rel
  rw [show Int.fdiv (r : Int) 1 = (r : Int) by rw [Int.fdiv_eq_ediv_of_nonneg _ (by decide)]; lia]
  refine i_int (by boot_fact) (by rw [Int.toNat_natCast]; exact h0) ?_ (by lia) (by lia)
  repeat tb_rel
  refine c_last_block ⟨by boot_fact, by boot_fact⟩ (by boot_fact) hs (by boot_fact) hpl hu ?_
  rw [hN]
  refine c_allocate (near := near) ⟨by boot_fact, by boot_fact⟩ (by boot_fact) (by boot_fact) hs hnear ?_
  repeat tb_rel
  refine set_list (xs := aints e.map) (by top_raise0) (by lia) (by simp [aints, hoe.map]; lia) (by simp [aints, hoe.map]) ?_
  rw [aints_set, Int.toNat_natCast]
  repeat tb_rel
  refine i_int (v := ((16 + j : Nat) : Int)) (by boot_fact) (by rw [Int.toNat_natCast, List.getElem?_set_self (by rw [hoe.map]; exact hr)]) ?_ (by lia) (by lia)
  repeat tb_rel
  refine c_records_of_block ⟨by boot_fact, by boot_fact⟩ ?_
  refine b_mod (by decide) ?_
  rw [show Int.fmod (r : Int) 1 = 0 by rw [Int.fmod_eq_emod_of_nonneg _ (by decide)]; lia]
  repeat tb_rel
  refine c_write_record (b := oc) ⟨by boot_fact, by boot_fact⟩ (by boot_fact) hs hj hol (by top_raise0) ?_
  repeat tb_rel
  have hs2 : Da ss (bs.set j oc) := hs.putB hol
  refine c_write_entry (e := e.wrote r (16 + j)) (x := x) (ex := ex) (r := r') (mp := mp) ⟨by boot_fact, by boot_fact⟩ ⟨by boot_fact, ?_, ?_, ?_⟩ hs2 f2 hoe' (by top_raise0) ?_
  · show (ex, AO.attrs (fput (entFs e r' mp) "count" (.int (max e.cnt ((r : Int) + 1))))) ∈ _
    boot_fact
  · show (r', AO.list (aints e.raw)) ∈ _
    boot_fact
  · show (mp, AO.list (aints (e.map.set r ((16 + j : Nat) : Int)))) ∈ _
    boot_fact
  repeat tb_rel
  refine rn (σ' := (dt, .list (aints (dat (ss.set k (some (e.wrote r (16 + j)))) (bs.set j oc)))) :: σr) (by k_caught0) ⟨rfl, rfl⟩
end
set_option maxRecDepth 100000
/-! the directory as a list of entries -/
noncomputable def pad (L : List En) : List (Option En) := L.map some ++ List.replicate (4 - L.length) none
noncomputable def nums (L : List En) : List (Nat × En) := L.zipIdx.map fun p => (p.2, p.1)
theorem le4 {L : List En} (h : L.length ≤ 4) : L = [] ∨ (∃ a, L = [a]) ∨ (∃ a b, L = [a, b]) ∨ (∃ a b d, L = [a, b, d]) ∨ ∃ a b d e, L = [a, b, d, e] := by
  match L, h with
  | [], _ => exact .inl rfl
  | [a], _ => exact .inr (.inl ⟨a, rfl⟩)
  | [a, b], _ => exact .inr (.inr (.inl ⟨a, b, rfl⟩))
  | [a, b, d], _ => exact .inr (.inr (.inr (.inl ⟨a, b, d, rfl⟩)))
  | [a, b, d, e], _ => exact .inr (.inr (.inr (.inr ⟨a, b, d, e, rfl⟩)))
  | _ :: _ :: _ :: _ :: _ :: _, h => exact absurd h (by simp)
theorem live_pad {L : List En} (h : L.length ≤ 4) : liveP (pad L) = nums L := by
  rcases le4 h with rfl | ⟨a, rfl⟩ | ⟨a, b, rfl⟩ | ⟨a, b, d, rfl⟩ | ⟨a, b, d, e, rfl⟩ <;> rfl
theorem find_pad {L : List En} {u : Int} {pat : List Int} (h : L.length ≤ 4) : findP (pad L) u pat = (nums L).filter fun p => hitB u pat p.2 := by
  rcases le4 h with rfl | ⟨a, rfl⟩ | ⟨a, b, rfl⟩ | ⟨a, b, d, rfl⟩ | ⟨a, b, d, e, rfl⟩
  · rfl
  · show ([] ++ if hitB u pat a = true then [(0, a)] else []) ++ [] ++ [] ++ [] = List.filter _ [(0, a)]
    simp [List.filter_cons]
  · show ([] ++ (if hitB u pat a = true then [(0, a)] else [])) ++ (if hitB u pat b = true then [(1, b)] else []) ++ [] ++ [] = List.filter _ [(0, a), (1, b)]
    simp only [List.filter_cons]; split <;> split <;> simp
  · show ([] ++ (if hitB u pat a = true then [(0, a)] else [])) ++ (if hitB u pat b = true then [(1, b)] else []) ++ (if hitB u pat d = true then [(2, d)] else []) ++ [] = List.filter _ [(0, a), (1, b), (2, d)]
    simp only [List.filter_cons]; split <;> split <;> split <;> simp
  · show ([] ++ (if hitB u pat a = true then [(0, a)] else [])) ++ (if hitB u pat b = true then [(1, b)] else []) ++ (if hitB u pat d = true then [(2, d)] else []) ++ (if hitB u pat e = true then [(3, e)] else []) = List.filter _ [(0, a), (1, b), (2, d), (3, e)]
    simp only [List.filter_cons]; split <;> split <;> split <;> split <;> simp
theorem free_pad {L : List En} (h : L.length ≤ 4) : freeP (pad L) = if L.length < 4 then some L.length else none := by
  rcases le4 h with rfl | ⟨a, rfl⟩ | ⟨a, b, rfl⟩ | ⟨a, b, d, rfl⟩ | ⟨a, b, d, e, rfl⟩ <;> rfl
theorem set_pad {L : List En} {k : Nat} {e : En} (h : L.length ≤ 4) (hk : k < L.length) : (pad L).set k (some e) = pad (L.set k e) := by
  unfold pad
  rw [List.set_append_left _ _ (by simpa using hk), List.map_set, List.length_set]
theorem snoc_pad {L : List En} {e : En} (h : L.length < 4) : (pad L).set L.length (some e) = pad (L ++ [e]) := by
  rcases le4 (Nat.le_of_lt h) with rfl | ⟨a, rfl⟩ | ⟨a, b, rfl⟩ | ⟨a, b, d, rfl⟩ | ⟨a, b, d, e, rfl⟩
  · rfl
  · rfl
  · rfl
  · rfl
  · simp at h
theorem da_pad {L : List En} {bs : List (List Int)} (h : L.length ≤ 4) (ho : ∀ e ∈ L, e.Ok) (hb : bs.length = 8) (hb8 : ∀ b ∈ bs, b.length = 8) : Da (pad L) bs := by
  refine ⟨by simp [pad]; lia, fun e he => ?_, hb, hb8⟩
  unfold pad at he
  rcases List.mem_append.mp he with q | q
  · obtain ⟨e', h1, h2⟩ := List.mem_map.mp q
    cases h2; exact ho _ h1
  · have := List.eq_of_mem_replicate q; cases this
/-! the blocks in use -/
noncomputable def nz (l : List Int) : List Int := l.filter (· ≠ 0)
noncomputable def flat (L : List En) : List Int := nz (L.flatMap fun e => e.map)
theorem nz_append {a b : List Int} : nz (a ++ b) = nz a ++ nz b := List.filter_append ..
theorem nums_flat {L : List En} : ((nums L).flatMap fun p => p.2.map) = L.flatMap fun e => e.map := by
  unfold nums
  rw [List.flatMap_map]
  suffices H : ∀ (L : List En) (i : Nat), ((L.zipIdx i).flatMap fun p => p.1.map) = L.flatMap fun e => e.map from H L 0
  intro L
  induction L with
  | nil => intro i; rfl
  | cons a L ih => intro i; rw [List.zipIdx_cons, List.flatMap_cons, List.flatMap_cons, ih]
theorem okM_append : ∀ {a b ks : List Int}, okM ks (a ++ b) = (okM ks a && okM (a.foldl metB ks) b)
  | [], b, ks => rfl
  | x :: a, b, ks => by
    show (okB ks x && okM (metB ks x) (a ++ b)) = ((okB ks x && okM (metB ks x) a) && okM (a.foldl metB (metB ks x)) b)
    rw [okM_append, Bool.and_assoc]
theorem okL_flat : ∀ {ps : List (Nat × En)} {ks : List Int}, okL ks ps = okM ks (ps.flatMap fun p => p.2.map)
  | [], ks => rfl
  | p :: ps, ks => by
    rw [List.flatMap_cons, okM_append]
    show (okM ks p.2.map && okL _ ps) = _
    rw [okL_flat]
theorem okM_of : ∀ {l ks : List Int}, (nz l).Nodup → (∀ x ∈ nz l, x ∉ ks ∧ 16 ≤ x ∧ x < 24) → okM ks l = true
  | [], ks, _, _ => rfl
  | x :: l, ks, h1, h2 => by
    show (okB ks x && okM (metB ks x) l) = true
    by_cases q : x = 0
    · subst q
      have e : nz (0 :: l) = nz l := by simp [nz]
      rw [e] at h1 h2
      rw [show okB ks 0 = true from rfl, Bool.true_and]
      refine okM_of h1 fun y hy => ⟨fun z => ?_, (h2 y hy).2⟩
      unfold metB at z
      split at z
      · exact (h2 y hy).1 z
      · rcases List.mem_append.mp z with z | z
        · exact (h2 y hy).1 z
        · rw [List.mem_singleton.mp z] at hy; simp [nz] at hy
    · have e : nz (x :: l) = x :: nz l := by simp [nz, q]
      rw [e] at h1 h2
      obtain ⟨g1, g2, g3⟩ := h2 x (.head _)
      have : okB ks x = true := by
        unfold okB
        simp [q, g1, g2, g3]
      rw [this, Bool.true_and]
      refine okM_of (List.nodup_cons.mp h1).2 fun y hy => ⟨fun z => ?_, (h2 y (.tail _ hy)).2⟩
      unfold metB at z
      split at z
      · exact (h2 y (.tail _ hy)).1 z
      · rcases List.mem_append.mp z with z | z
        · exact (h2 y (.tail _ hy)).1 z
        · rw [List.mem_singleton.mp z] at hy; exact (List.nodup_cons.mp h1).1 hy
theorem usedL_flat : ∀ {ps : List (Nat × En)} {u : List Bool}, ps.foldl (fun u p => markP u p.2.map) u = markP u (ps.flatMap fun p => p.2.map)
  | [], u => rfl
  | p :: ps, u => by
    rw [List.foldl_cons, List.flatMap_cons, usedL_flat]
    unfold markP
    rw [List.foldl_append]
theorem markP_get : ∀ {l : List Int} {u : List Bool} {i : Nat} {v : Bool}, u.length = 24 → u[i]? = some v → 0 < i → (markP u l)[i]? = some (v || l.contains (i : Int))
  | [], u, i, v, hl, h, hi => by show u[i]? = _; rw [h]; simp
  | x :: l, u, i, v, hl, h, hi => by
    show (markP (markB u x) l)[i]? = _
    have hi24 : i < 24 := by rw [← hl]; exact (List.getElem?_eq_some_iff.mp h).1
    have h1 : (markB u x)[i]? = some (v || (i : Int) == x) := by
      unfold markB
      split
      · rename_i q
        rw [List.getElem?_set]
        split
        · rename_i e
          have : (i : Int) = x := by lia
          rw [if_pos (by lia)]; simp [this]
        · rename_i e
          have : ((i : Int) == x) = false := by simp; lia
          rw [h, this]; simp
      · rename_i q
        have : ((i : Int) == x) = false := by simp; lia
        rw [h, this]; simp
    rw [markP_get (by rw [markB_len, hl]) h1 hi]
    have hq : ((i : Int) == x) = decide ((i : Int) = x) := by rw [Bool.eq_iff_iff]; simp
    simp [Bool.or_assoc, hq]
noncomputable def usedN (k : Nat) : List Bool := (List.range 24).map fun i => decide (i < 16 + k)
noncomputable def blocksN (k : Nat) : List Int := (List.range k).map fun i => ((16 + i : Nat) : Int)
structure Full (L : List En) (k : Nat) : Prop where
  len : L.length ≤ 4
  perm : (flat L).Perm (blocksN k)
  k8 : k ≤ 8
theorem blocksN_mem {k : Nat} {x : Int} : x ∈ blocksN k ↔ 16 ≤ x ∧ x < 16 + k := by
  unfold blocksN
  rw [List.mem_map]
  constructor
  · rintro ⟨i, hi, rfl⟩
    have := List.mem_range.mp hi
    lia
  · intro h
    exact ⟨(x - 16).toNat, List.mem_range.mpr (by lia), by lia⟩
theorem blocksN_nodup {k : Nat} : (blocksN k).Nodup := by
  unfold blocksN
  exact List.Pairwise.map _ (fun a b h e => h (by lia)) List.nodup_range
theorem Full.ok {L : List En} {k : Nat} (h : Full L k) : okL [] (liveP (pad L)) = true := by
  rw [live_pad h.len, okL_flat, nums_flat]
  have hk := h.k8
  refine okM_of (h.perm.nodup_iff.mpr blocksN_nodup) fun x hx => ⟨by simp, ?_⟩
  have := blocksN_mem.mp (h.perm.mem_iff.mp hx)
  lia
theorem mem_nz {l : List Int} {x : Int} (h : x ≠ 0) : x ∈ nz l ↔ x ∈ l := by simp [nz, h]
theorem Full.used {L : List En} {k : Nat} (h : Full L k) : usedP (pad L) = usedN k := by
  have hk := h.k8
  unfold usedP usedL
  rw [live_pad h.len, usedL_flat, nums_flat]
  refine List.ext_getElem? fun i => ?_
  by_cases hi : i < 24
  · have hu : (used0 24)[i]? = some (decide (i < 16)) := by unfold used0; rw [List.getElem?_map, List.getElem?_range hi]; rfl
    have hn : (usedN k)[i]? = some (decide (i < 16 + k)) := by unfold usedN; rw [List.getElem?_map, List.getElem?_range hi]; rfl
    rw [hn]
    by_cases h0 : i = 0
    · subst h0
      suffices H : ∀ (l : List Int) (u : List Bool), u[0]? = some true → (markP u l)[0]? = some true by
        rw [H _ _ rfl]; simp; lia
      intro l
      induction l with
      | nil => intro u hu; exact hu
      | cons x l ih =>
        intro u hu
        refine ih (markB u x) ?_
        unfold markB
        split
        · rw [List.getElem?_set]
          split
          · lia
          · exact hu
        · exact hu
    · rw [markP_get rfl hu (by lia)]
      congr 1
      rw [Bool.eq_iff_iff]
      simp only [Bool.or_eq_true, decide_eq_true_eq, List.contains_iff_mem]
      rw [← mem_nz (by lia), show nz (L.flatMap fun e => e.map) = flat L from rfl, h.perm.mem_iff, blocksN_mem]
      lia
  · rw [List.getElem?_eq_none (by rw [markP_len]; show 24 ≤ i; lia), List.getElem?_eq_none (by show 24 ≤ i; lia)]
theorem near_usedN : ∀ k : Fin 8, ∀ near : Fin 24, near.1 < 16 + k.1 → nearP (usedN k.1) 48 (min near.1 24) near.1 = some (16 + k.1) := by decide +kernel
theorem free_usedN : ∀ k : Fin 9, (freeI (usedN k.1) 24).length + k.1 = 8 := by decide +kernel
theorem Full.near {L : List En} {k near : Nat} (h : Full L k) (hk : k < 8) (hn : near < 16 + k) : nearP (usedP (pad L)) 48 (min near 24) near = some (16 + k) := by
  rw [h.used]; exact near_usedN ⟨k, hk⟩ ⟨near, by lia⟩ hn
theorem Full.free {L : List En} {k : Nat} (h : Full L k) : (freeI (usedP (pad L)) 24).length + k = 8 := by
  rw [h.used]; exact free_usedN ⟨k, by have := h.k8; lia⟩
theorem nz_set {l : List Int} {s : Nat} {v : Int} (h : l[s]? = some 0) (hv : v ≠ 0) : (nz (l.set s v)).Perm (v :: nz l) := by
  induction l generalizing s with
  | nil => simp at h
  | cons x l ih =>
    cases s with
    | zero =>
      simp at h; subst h
      rw [List.set_cons_zero]
      simp [nz, hv]
    | succ s =>
      simp at h
      rw [List.set_cons_succ]
      have := ih h
      by_cases q : x = 0
      · subst q; simpa [nz] using this
      · have e1 : ∀ l, nz (x :: l) = x :: nz l := fun l => by simp [nz, q]
        rw [e1, e1]
        exact (this.cons x).trans (.swap _ _ _)
theorem flat_set {L : List En} {k s : Nat} {e e' : En} {v : Int} (hk : L[k]? = some e) (h : e.map[s]? = some 0) (hv : v ≠ 0) (he : e'.map = e.map.set s v) : (flat (L.set k e')).Perm (v :: flat L) := by
  induction L generalizing k with
  | nil => simp at hk
  | cons a L ih =>
    cases k with
    | zero =>
      simp at hk; subst hk
      rw [List.set_cons_zero]
      unfold flat
      rw [List.flatMap_cons, List.flatMap_cons, nz_append, nz_append, he]
      exact (nz_set h hv).append_right _
    | succ k =>
      simp at hk
      rw [List.set_cons_succ]
      unfold flat at ih ⊢
      rw [List.flatMap_cons, List.flatMap_cons, nz_append, nz_append]
      exact ((ih hk).append_left _).trans List.perm_middle
theorem flat_same {L : List En} {k : Nat} {e e' : En} (hk : L[k]? = some e) (he : e'.map = e.map) : flat (L.set k e') = flat L := by
  induction L generalizing k with
  | nil => simp at hk
  | cons a L ih =>
    cases k with
    | zero =>
      simp at hk; subst hk
      rw [List.set_cons_zero]
      unfold flat
      rw [List.flatMap_cons, List.flatMap_cons, he]
    | succ k =>
      simp at hk
      rw [List.set_cons_succ]
      unfold flat at ih ⊢
      rw [List.flatMap_cons, List.flatMap_cons, nz_append, nz_append, ih hk]
theorem nz_zeros {k : Nat} : nz (zeros k) = [] := by
  unfold nz; rw [List.filter_eq_nil_iff]; intro x hx; rw [List.eq_of_mem_replicate hx]; decide
theorem flat_snoc {L : List En} {e : En} (he : e.map = zeros 16) : flat (L ++ [e]) = flat L := by
  unfold flat
  rw [List.flatMap_append, nz_append]
  simp [he, nz_zeros]
theorem blocksN_succ {k : Nat} : (((16 + k : Nat) : Int) :: blocksN k).Perm (blocksN (k + 1)) := by
  unfold blocksN
  rw [List.range_succ, List.map_append]
  exact (List.perm_append_comm (l₁ := [_])).trans (.refl _)
set_option maxRecDepth 100000
noncomputable def mapF (b r : Nat) (blk : Nat → Nat) (x : Nat) : List Int := (List.range 16).map fun s => if b ≤ 16 * x + s ∧ 16 * x + s < r then ((16 + blk (16 * x + s) : Nat) : Int) else 0
theorem mapF_len {b r x : Nat} {blk : Nat → Nat} : (mapF b r blk x).length = 16 := by simp [mapF]
theorem mapF_get {b r x s : Nat} {blk : Nat → Nat} (hs : s < 16) : (mapF b r blk x)[s]? = some (if b ≤ 16 * x + s ∧ 16 * x + s < r then ((16 + blk (16 * x + s) : Nat) : Int) else 0) := by
  unfold mapF; rw [List.getElem?_map, List.getElem?_range hs]; rfl
theorem mapF_mem {b r x : Nat} {blk : Nat → Nat} {v : Int} (h : v ∈ mapF b r blk x) : v = 0 ∨ ∃ k, b ≤ k ∧ k < r ∧ v = ((16 + blk k : Nat) : Int) := by
  unfold mapF at h
  obtain ⟨s, hs, rfl⟩ := List.mem_map.mp h
  split
  · rename_i q; exact .inr ⟨_, q.1, q.2, rfl⟩
  · exact .inl rfl
noncomputable def upd (blk : Nat → Nat) (k v : Nat) : Nat → Nat := fun i => if i = k then v else blk i
theorem mapF_set {b r x s j : Nat} {blk : Nat → Nat} (hr : r = 16 * x + s) (hs : s < 16) (hb : b ≤ r) : (mapF b r blk x).set s ((16 + j : Nat) : Int) = mapF b (r + 1) (upd blk r j) x := by
  refine List.ext_getElem? fun i => ?_
  rw [List.getElem?_set]
  by_cases hi : i < 16
  · rw [mapF_get hi, mapF_get hi]
    split
    · rename_i q; subst q
      rw [if_pos (by rw [mapF_len]; exact hi), if_pos (by lia)]
      unfold upd; rw [if_pos (by lia)]
    · rename_i q
      congr 1
      by_cases z : b ≤ 16 * x + i ∧ 16 * x + i < r
      · rw [if_pos z, if_pos (by lia)]
        unfold upd; rw [if_neg (by lia)]
      · rw [if_neg z, if_neg (by lia)]
  · rw [List.getElem?_eq_none (l := mapF b (r + 1) (upd blk r j) x) (by rw [mapF_len]; lia)]
    split
    · rename_i q; lia
    · exact List.getElem?_eq_none (by rw [mapF_len]; lia)
theorem mapF_other {b r x j : Nat} {blk : Nat → Nat} (hr : r < 16 * x ∨ 16 * x + 16 ≤ r) : mapF b (r + 1) (upd blk r j) x = mapF b r blk x := by
  refine List.ext_getElem? fun i => ?_
  by_cases hi : i < 16
  · rw [mapF_get hi, mapF_get hi]
    congr 1
    by_cases z : b ≤ 16 * x + i ∧ 16 * x + i < r
    · rw [if_pos z, if_pos (by lia)]
      unfold upd; rw [if_neg (by lia)]
    · rw [if_neg z, if_neg (by lia)]
  · rw [List.getElem?_eq_none (by rw [mapF_len]; lia), List.getElem?_eq_none (by rw [mapF_len]; lia)]
theorem mapF_zero {b r x : Nat} {blk : Nat → Nat} (h : r ≤ b ∨ r ≤ 16 * x) : mapF b r blk x = zeros 16 := by
  refine List.ext_getElem? fun i => ?_
  by_cases hi : i < 16
  · rw [mapF_get hi, if_neg (by lia)]
    unfold zeros; rw [List.getElem?_replicate, if_pos hi]
  · rw [List.getElem?_eq_none (by rw [mapF_len]; lia), List.getElem?_eq_none (by simp [zeros]; lia)]
/-- a file of the law -/
structure LF where
  b : Nat
  n : Nat
  z : Nat
  blk : Nat → Nat
namespace LF
noncomputable def r (f : LF) : Nat := f.b + f.n
noncomputable def ex (f : LF) : Nat := if f.r ≤ 16 then 0 else 1
noncomputable def cnt (f : LF) (x : Nat) : Nat := if x = 0 then (if f.z = 0 then 0 else min 16 (f.b + f.z)) else f.b + f.z - 16
noncomputable def e (nm : List Int) (w : Nat) (f : LF) (x : Nat) : En := ⟨w, nm, x, f.cnt x, mapF f.b f.r f.blk x⟩
noncomputable def fcb (nm : List Int) (f : LF) : Fcb := ⟨nm, f.ex, decide (f.z < f.n), if f.n = 0 then 0 else ((f.r - 16 * f.ex : Nat) : Int), mapF f.b f.r f.blk f.ex, ((f.r - 16 * f.ex : Nat) : Int)⟩
structure Ok (f : LF) : Prop where
  z : f.z ≤ f.n
  b : f.b < 16
  n : f.n ≤ 5
  c : 16 < f.r → 16 ≤ f.b + f.z
  k : ∀ k, f.b ≤ k → k < f.r → f.blk k < 8
noncomputable def cl (f : LF) : List Nat := (List.range f.z).map (f.b + ·)
noncomputable def wt (f : LF) : List Nat := (List.range (f.n - f.z)).map (f.b + f.z + ·)
end LF
noncomputable def dirL (nm : Nat → List Int) (F : Nat → LF) (C : List Nat) : List En := [(F 0).e (nm 0) 0 0, (F 1).e (nm 1) 1 0] ++ C.map fun w => (F w).e (nm w) w 1
noncomputable def Sh (C : List Nat) : Prop := C = [] ∨ C = [0] ∨ C = [1] ∨ C = [0, 1] ∨ C = [1, 0]
noncomputable def setF (F : Nat → LF) (w : Nat) (g : LF) : Nat → LF := fun v => if v = w then g else F v
theorem setF_self {F : Nat → LF} {w : Nat} {g : LF} : setF F w g w = g := if_pos rfl
theorem sameB_self {a : Int} : sameB a a = true := by simp [sameB]
theorem matchB_self : ∀ {p : List Int}, matchB p p = true
  | [] => rfl
  | a :: p => by
    show (id (sameB a a) && (matchL p p).all id) = true
    rw [show (matchL p p).all id = true from matchB_self]
    simp [sameB_self]
theorem hit_same {nm : List Int} {w : Nat} {f : LF} {x : Nat} : hitB w nm (f.e nm w x) = true := by
  show ((w : Int) == w && matchB nm nm) = true
  rw [matchB_self]; simp
theorem hit_other {nm nm' : List Int} {w w' : Nat} {f : LF} {x : Nat} (h : w ≠ w') : hitB w nm (f.e nm' w' x) = false := by
  show ((w' : Int) == w && _) = false
  have : ((w' : Int) == w) = false := by simp; lia
  rw [this]; rfl
/-- where the entry of an extent stands -/
noncomputable def at1 (C : List Nat) (w : Nat) : Nat := 2 + C.idxOf w
theorem dir_len {nm : Nat → List Int} {F : Nat → LF} {C : List Nat} : (dirL nm F C).length = 2 + C.length := by simp [dirL]; lia
theorem nums_append {A B : List En} : nums (A ++ B) = nums A ++ B.zipIdx.map fun p => (p.2 + A.length, p.1) := by
  unfold nums
  rw [List.zipIdx_append, List.map_append]
  congr 1
  rw [List.zipIdx_eq_map_add]
  rw [List.map_map]
  refine List.map_congr_left fun p _ => ?_
  show (0 + A.length + p.2, p.1) = (p.2 + A.length, p.1)
  rw [Nat.zero_add, Nat.add_comm]
theorem find_dir {nm : Nat → List Int} {F : Nat → LF} {C : List Nat} {X : List En} {w : Nat} (hC : Sh C) (hw : w < 2) (hl : (dirL nm F C ++ X).length ≤ 4) (hX : ∀ e ∈ X, hitB w (nm w) e = false) :
    findP (pad (dirL nm F C ++ X)) w (nm w) = (w, (F w).e (nm w) w 0) :: (if w ∈ C then [(at1 C w, (F w).e (nm w) w 1)] else []) := by
  rw [find_pad hl, nums_append, List.filter_append]
  have hX' : (X.zipIdx.map fun p => (p.2 + (dirL nm F C).length, p.1)).filter (fun p => hitB w (nm w) p.2) = [] := by
    rw [List.filter_eq_nil_iff]
    intro p hp
    obtain ⟨q, hq, rfl⟩ := List.mem_map.mp hp
    have := hX q.1 (List.fst_mem_of_mem_zipIdx hq)
    simp [this]
  rw [hX', List.append_nil]
  have hs := @hit_same
  have ho := @hit_other
  have h01 : ∀ {nm nm' : List Int} {f : LF} {x : Nat}, hitB ((0 : Nat) : Int) nm (f.e nm' 1 x) = false := fun {nm nm' f x} => hit_other (w := 0) (w' := 1) (by decide)
  have h10 : ∀ {nm nm' : List Int} {f : LF} {x : Nat}, hitB ((1 : Nat) : Int) nm (f.e nm' 0 x) = false := fun {nm nm' f x} => hit_other (w := 1) (w' := 0) (by decide)
  have h00 : ∀ {nm : List Int} {f : LF} {x : Nat}, hitB ((0 : Nat) : Int) nm (f.e nm 0 x) = true := fun {nm f x} => hit_same (w := 0)
  have h11 : ∀ {nm : List Int} {f : LF} {x : Nat}, hitB ((1 : Nat) : Int) nm (f.e nm 1 x) = true := fun {nm f x} => hit_same (w := 1)
  have hw2 : w = 0 ∨ w = 1 := by lia
  rcases hw2 with rfl | rfl <;> rcases hC with rfl | rfl | rfl | rfl | rfl <;> simp only [dirL, nums, List.map_cons, List.map_nil, List.cons_append, List.nil_append, List.append_nil, List.zipIdx_cons, List.zipIdx_nil, List.filter_cons, List.filter_nil, h00, h01, h10, h11, if_pos, if_neg, Bool.false_eq_true, if_true, if_false, List.mem_cons, List.not_mem_nil, or_false, or_true, at1] <;> (try simp) <;> decide
set_option maxRecDepth 100000
section
variable {nm : Nat → List Int} {F : Nat → LF} {C : List Nat} {X : List En} {w k : Nat} {bs : List (List Int)} {g : LF}
theorem dir_upd0 (hw : w < 2) (hC : Sh C) (h : w ∈ C → g.e (nm w) w 1 = (F w).e (nm w) w 1) : (dirL nm F C).set w (g.e (nm w) w 0) = dirL nm (setF F w g) C := by
  have hw2 : w = 0 ∨ w = 1 := by lia
  rcases hw2 with rfl | rfl <;> rcases hC with rfl | rfl | rfl | rfl | rfl <;> simp [dirL, setF] <;> simp at h <;> exact h.symm
theorem dir_upd1 (hw : w < 2) (hC : Sh C) (hc : w ∈ C) (h : g.e (nm w) w 0 = (F w).e (nm w) w 0) : (dirL nm F C).set (at1 C w) (g.e (nm w) w 1) = dirL nm (setF F w g) C := by
  have hw2 : w = 0 ∨ w = 1 := by lia
  rcases hw2 with rfl | rfl <;> rcases hC with rfl | rfl | rfl | rfl | rfl <;> simp at hc <;> simp [dirL, setF, at1, List.idxOf_cons] <;> exact h.symm
theorem dir_snoc (hw : w < 2) (hC : Sh C) (hc : w ∉ C) (h : g.e (nm w) w 0 = (F w).e (nm w) w 0) : dirL nm F C ++ [g.e (nm w) w 1] = dirL nm (setF F w g) (C ++ [w]) := by
  have hw2 : w = 0 ∨ w = 1 := by lia
  rcases hw2 with rfl | rfl <;> rcases hC with rfl | rfl | rfl | rfl | rfl <;> simp at hc <;> simp [dirL, setF] <;> exact h.symm
theorem sh_snoc (hw : w < 2) (hC : Sh C) (hc : w ∉ C) : Sh (C ++ [w]) ∧ C.length < 2 := by
  have hw2 : w = 0 ∨ w = 1 := by lia
  rcases hw2 with rfl | rfl <;> rcases hC with rfl | rfl | rfl | rfl | rfl <;> simp at hc <;> simp [Sh]
theorem dir_get0 (hw : w < 2) (hC : Sh C) : (dirL nm F C)[w]? = some ((F w).e (nm w) w 0) := by
  have hw2 : w = 0 ∨ w = 1 := by lia
  rcases hw2 with rfl | rfl <;> rfl
theorem dir_get1 (hw : w < 2) (hC : Sh C) (hc : w ∈ C) : (dirL nm F C)[at1 C w]? = some ((F w).e (nm w) w 1) := by
  have hw2 : w = 0 ∨ w = 1 := by lia
  rcases hw2 with rfl | rfl <;> rcases hC with rfl | rfl | rfl | rfl | rfl <;> simp at hc <;> rfl
theorem at1_lt (hw : w < 2) (hC : Sh C) (hc : w ∈ C) : at1 C w < (dirL nm F C).length := (List.getElem?_eq_some_iff.mp (dir_get1 (nm := nm) (F := F) hw hC hc)).1
theorem setF_setF {g g' : LF} : setF (setF F w g) w g' = setF F w g' := by
  funext v; unfold setF; split <;> rfl
theorem setF_id : setF F w (F w) = F := by
  funext v; unfold setF; split
  · rename_i e; rw [e]
  · rfl
theorem find_e0 (hC : Sh C) (hw : w < 2) (hl : (dirL nm F C ++ X).length ≤ 4) (hX : ∀ e ∈ X, hitB w (nm w) e = false) : findE (pad (dirL nm F C ++ X)) w (nm w) 0 = some (w, (F w).e (nm w) w 0) := by
  unfold findE
  rw [find_dir hC hw hl hX, List.find?_cons_of_pos]
  rfl
theorem find_e1 (hC : Sh C) (hw : w < 2) (hl : (dirL nm F C ++ X).length ≤ 4) (hX : ∀ e ∈ X, hitB w (nm w) e = false) : findE (pad (dirL nm F C ++ X)) w (nm w) 1 = if w ∈ C then some (at1 C w, (F w).e (nm w) w 1) else none := by
  unfold findE
  rw [find_dir hC hw hl hX, List.find?_cons_of_neg (by show ¬ ((0 : Nat) : Int) == 1; decide)]
  split
  · rw [List.find?_cons_of_pos]; rfl
  · rfl
structure Inv (nm : Nat → List Int) (F : Nat → LF) (C : List Nat) (k : Nat) (bs : List (List Int)) : Prop where
  nml : ∀ w, w < 2 → (nm w).length = 11
  f : ∀ w, w < 2 → (F w).Ok
  sh : Sh C
  cr : ∀ w, w < 2 → (w ∈ C ↔ 16 < (F w).r)
  full : Full (dirL nm F C) k
  bl : bs.length = 8
  b8 : ∀ b ∈ bs, b.length = 8
  cont : ∀ w, w < 2 → ∀ i, (F w).b ≤ i → i < (F w).r → (F w).blk i < k ∧ bs[(F w).blk i]? = some (octs w i)
  ks : ∀ w, w < 2 → (F w).n ≤ k
theorem e_ok (h : (nm w).length = 11) (hw : w < 200) {x : Nat} (hx : x < 32) {f : LF} : (f.e (nm w) w x).Ok :=
  ⟨h, mapF_len, by show (w : Int) ≠ 229; lia, by show 0 ≤ (x : Int) ∧ (x : Int) < 32; lia⟩
theorem dir_ok (hn : ∀ w, w < 2 → (nm w).length = 11) (hC : Sh C) : ∀ e ∈ dirL nm F C, e.Ok := by
  intro e he
  unfold dirL at he
  rcases List.mem_append.mp he with q | q
  · rcases List.mem_cons.mp q with rfl | q
    · exact e_ok (hn 0 (by decide)) (by decide) (by decide)
    · rcases List.mem_cons.mp q with rfl | q
      · exact e_ok (hn 1 (by decide)) (by decide) (by decide)
      · cases q
  · obtain ⟨v, hv, rfl⟩ := List.mem_map.mp q
    have : v < 2 := by rcases hC with rfl | rfl | rfl | rfl | rfl <;> simp at hv <;> lia
    exact e_ok (hn v this) (by lia) (by decide)
theorem Inv.len (h : Inv nm F C k bs) : (dirL nm F C ++ []).length ≤ 4 := by rw [List.append_nil]; exact h.full.len
theorem Inv.da (h : Inv nm F C k bs) : Da (pad (dirL nm F C)) bs := da_pad h.full.len (dir_ok h.nml h.sh) h.bl h.b8
theorem Inv.e0 (h : Inv nm F C k bs) (hw : w < 2) : findE (pad (dirL nm F C)) w (nm w) 0 = some (w, (F w).e (nm w) w 0) := by
  have := find_e0 (X := []) h.sh hw h.len (fun e he => by cases he)
  rwa [List.append_nil] at this
theorem Inv.e1 (h : Inv nm F C k bs) (hw : w < 2) : findE (pad (dirL nm F C)) w (nm w) 1 = if w ∈ C then some (at1 C w, (F w).e (nm w) w 1) else none := by
  have := find_e1 (X := []) h.sh hw h.len (fun e he => by cases he)
  rwa [List.append_nil] at this
noncomputable def LF.shut (f : LF) : LF := { f with z := f.n }
theorem LF.shut_id {f : LF} (h : f.z = f.n) : f.shut = f := by
  cases f with
  | mk b n z blk => show LF.mk b n n blk = LF.mk b n z blk; rw [show z = n from h]
theorem setF_at {v : Nat} : setF F w g v = if v = w then g else F v := rfl
/-- a closing -/
theorem Inv.close (h : Inv nm F C k bs) (hw : w < 2) : ClosedTo (pad (dirL nm F C)) w ((F w).fcb (nm w)) (pad (dirL nm (setF F w (F w).shut) C)) ∧ Inv nm (setF F w (F w).shut) C k bs ∧ ({ (F w).fcb (nm w) with chg := false } : Fcb) = (F w).shut.fcb (nm w) := by
  have hf := h.f w hw
  have hcr := h.cr w hw
  have hsf : ({ (F w).fcb (nm w) with chg := false } : Fcb) = (F w).shut.fcb (nm w) := by
    show Fcb.mk _ _ _ _ _ _ = Fcb.mk _ _ _ _ _ _
    have : decide ((F w).n < (F w).n) = false := by simp
    show _ = Fcb.mk _ _ (decide ((F w).n < (F w).n)) _ _ _
    rw [this]; rfl
  have hmap : ∀ x, ((F w).shut.e (nm w) w x).map = ((F w).e (nm w) w x).map := fun x => rfl
  have hfull : ∀ L', flat L' = flat (dirL nm F C) → L'.length = (dirL nm F C).length → Full L' k := fun L' e1 e2 => ⟨by rw [e2]; exact h.full.len, by rw [e1]; exact h.full.perm, h.full.k8⟩
  have hinv : Full (dirL nm (setF F w (F w).shut) C) k → Inv nm (setF F w (F w).shut) C k bs := fun hfu => by
    refine ⟨h.nml, fun v hv => ?_, h.sh, fun v hv => ?_, hfu, h.bl, h.b8, fun v hv i h1 h2 => ?_, fun v hv => ?_⟩
    · rw [setF_at]; split
      · rename_i e; subst e; exact ⟨Nat.le_refl _, hf.b, hf.n, fun q => (by have := hf.c q; have := hf.z; show 16 ≤ (F v).b + (F v).n; lia), hf.k⟩
      · exact h.f v hv
    · rw [setF_at]; split
      · rename_i e; subst e; exact h.cr v hv
      · exact h.cr v hv
    · rw [setF_at] at h1 h2 ⊢; split at h1
      · rename_i e; subst e; rw [if_pos rfl] at h2 ⊢; exact h.cont v hv i h1 h2
      · rename_i e; rw [if_neg e] at h2 ⊢; exact h.cont v hv i h1 h2
    · rw [setF_at]; split
      · rename_i e; subst e; exact h.ks v hv
      · exact h.ks v hv
  by_cases hz : (F w).z < (F w).n
  · by_cases hr : (F w).r ≤ 16
    · have hex : (F w).ex = 0 := by unfold LF.ex; rw [if_pos hr]
      have hnc : w ∉ C := fun q => by have := hcr.mp q; lia
      have hcl : ((F w).e (nm w) w 0).close ((F w).fcb (nm w)) = (F w).shut.e (nm w) w 0 := by
        show En.mk _ _ _ (max (((F w).cnt 0 : Nat) : Int) (if (F w).n = 0 then 0 else (((F w).r - 16 * (F w).ex : Nat) : Int))) (mapF _ _ _ (F w).ex) = En.mk _ _ _ (((F w).shut.cnt 0 : Nat) : Int) (mapF _ _ _ 0)
        have e1 : max (((F w).cnt 0 : Nat) : Int) (if (F w).n = 0 then 0 else (((F w).r - 16 * (F w).ex : Nat) : Int)) = (((F w).shut.cnt 0 : Nat) : Int) := by
          rw [hex, if_neg (by lia)]
          unfold LF.r at hr ⊢
          show max ((if 0 = 0 then (if (F w).z = 0 then 0 else min 16 ((F w).b + (F w).z)) else _ : Nat) : Int) _ = ((if 0 = 0 then (if (F w).n = 0 then 0 else min 16 ((F w).b + (F w).n)) else _ : Nat) : Int)
          rw [if_pos rfl, if_pos rfl, if_neg (show (F w).n ≠ 0 by lia)]
          split <;> lia
        rw [e1, hex]; rfl
      have hset := dir_upd0 (nm := nm) (F := F) (g := (F w).shut) hw h.sh (fun q => absurd q hnc)
      have hlw : w < (dirL nm F C).length := by rw [dir_len]; lia
      refine ⟨.inr ⟨by simp [LF.fcb, hz], w, (F w).e (nm w) w 0, ?_, ?_, ?_⟩, hinv ?_, hsf⟩
      · show findE _ _ (nm w) (((F w).ex : Nat) : Int) = _
        rw [hex]; exact h.e0 hw
      · show mapF _ _ _ 0 = mapF _ _ _ (F w).ex
        rw [hex]
      · rw [hcl, set_pad h.full.len hlw, hset]
      · rw [← hset]
        exact hfull _ (flat_same (dir_get0 hw h.sh) rfl) (by rw [List.length_set])
    · have hex : (F w).ex = 1 := by unfold LF.ex; rw [if_neg hr]
      have hc : w ∈ C := hcr.mpr (by lia)
      have hbz := hf.c (by lia)
      have hb := hf.b
      have hcl : ((F w).e (nm w) w 1).close ((F w).fcb (nm w)) = (F w).shut.e (nm w) w 1 := by
        show En.mk _ _ _ (max (((F w).cnt 1 : Nat) : Int) (if (F w).n = 0 then 0 else (((F w).r - 16 * (F w).ex : Nat) : Int))) (mapF _ _ _ (F w).ex) = En.mk _ _ _ (((F w).shut.cnt 1 : Nat) : Int) (mapF _ _ _ 1)
        have e1 : max (((F w).cnt 1 : Nat) : Int) (if (F w).n = 0 then 0 else (((F w).r - 16 * (F w).ex : Nat) : Int)) = (((F w).shut.cnt 1 : Nat) : Int) := by
          rw [hex, if_neg (by lia)]
          unfold LF.r
          show max (((F w).b + (F w).z - 16 : Nat) : Int) _ = (((F w).b + (F w).n - 16 : Nat) : Int)
          lia
        rw [e1, hex]; rfl
      have h00 : (F w).shut.e (nm w) w 0 = (F w).e (nm w) w 0 := by
        show En.mk _ _ _ (((F w).shut.cnt 0 : Nat) : Int) _ = En.mk _ _ _ (((F w).cnt 0 : Nat) : Int) _
        have : (F w).shut.cnt 0 = (F w).cnt 0 := by
          show (if (F w).n = 0 then 0 else min 16 ((F w).b + (F w).n)) = (if (F w).z = 0 then 0 else min 16 ((F w).b + (F w).z))
          rw [if_neg (by lia), if_neg (by lia)]; lia
        rw [this]; rfl
      have hset := dir_upd1 (nm := nm) (F := F) (g := (F w).shut) hw h.sh hc h00
      refine ⟨.inr ⟨by simp [LF.fcb, hz], at1 C w, (F w).e (nm w) w 1, ?_, ?_, ?_⟩, hinv ?_, hsf⟩
      · show findE _ _ (nm w) (((F w).ex : Nat) : Int) = _
        rw [hex]
        have := h.e1 hw
        rw [if_pos hc] at this
        exact this
      · show mapF _ _ _ 1 = mapF _ _ _ (F w).ex
        rw [hex]
      · rw [hcl, set_pad h.full.len (at1_lt hw h.sh hc), hset]
      · rw [← hset]
        exact hfull _ (flat_same (dir_get1 hw h.sh hc) rfl) (by rw [List.length_set])
  · have hzn : (F w).z = (F w).n := by have := hf.z; lia
    have hid : (F w).shut = F w := LF.shut_id hzn
    have hF : setF F w (F w).shut = F := by rw [hid, setF_id]
    refine ⟨.inl ⟨by simp [LF.fcb]; lia, by rw [hF]⟩, hinv (by rw [hF]; exact h.full), hsf⟩
end
set_option maxRecDepth 100000
section
variable {nm : Nat → List Int} {F : Nat → LF} {C : List Nat} {X : List En} {w k : Nat} {bs : List (List Int)} {g : LF}
theorem maxI_bd : ∀ {xs : List Int} {M : Int}, (∀ x ∈ xs, x ≤ M) → 0 ≤ M → 0 ≤ maxI xs ∧ maxI xs ≤ M := by
  intro xs M h hM
  suffices H : ∀ (xs : List Int) (z : Int), (∀ x ∈ xs, x ≤ M) → 0 ≤ z → z ≤ M → 0 ≤ xs.foldl max z ∧ xs.foldl max z ≤ M from H xs 0 h (Int.le_refl _) hM
  intro xs
  induction xs with
  | nil => intro z _ h1 h2; exact ⟨h1, h2⟩
  | cons x xs ih =>
    intro z h h1 h2
    have := h x (.head _)
    exact ih _ (fun y hy => h y (.tail _ hy)) (by lia) (by lia)
noncomputable def LF.put (f : LF) (k : Nat) : LF := ⟨f.b, f.n + 1, if f.r % 16 = 0 then f.n else f.z, upd f.blk f.r k⟩
theorem LF.put_r {f : LF} : (f.put k).r = f.r + 1 := by show f.b + (f.n + 1) = f.b + f.n + 1; lia
/-- what a write leaves: where the record goes, the control block before the block is given, the directory -/
structure Wrote (nm : Nat → List Int) (F : Nat → LF) (C : List Nat) (w k : Nat) (bs : List (List Int)) (s1 : List (Option En)) (f1 : Fcb) (slot : Nat) (C' : List Nat) : Prop where
  go : GoTo (pad (dirL nm F C)) w ((F w).fcb (nm w)) s1 f1
  cr : f1.cr = slot
  lt : slot < 16
  blk : BlkTo s1 w f1 slot (16 + k) (pad (dirL nm (setF F w ((F w).put k)) C'))
  fcb : (⟨f1.nm, f1.ex, true, max f1.rc ((slot : Int) + 1), f1.al.set slot ((16 + k : Nat) : Int), (slot : Int) + 1⟩ : Fcb) = ((F w).put k).fcb (nm w)
  inv : Inv nm (setF F w ((F w).put k)) C' (k + 1) (bs.set k (octs w (F w).r))
theorem Inv.next (h : Inv nm F C k bs) (hw : w < 2) (hk : k < 5) {C' : List Nat} (hC' : Sh C') (hcr : w ∈ C' ↔ 16 < (F w).r + 1) (hoth : ∀ v, v ≠ w → (v ∈ C' ↔ v ∈ C)) (hfull : Full (dirL nm (setF F w ((F w).put k)) C') (k + 1))
    (hz : ((F w).put k).z ≤ (F w).n) (hc : 16 < (F w).r + 1 → 16 ≤ (F w).b + ((F w).put k).z) : Inv nm (setF F w ((F w).put k)) C' (k + 1) (bs.set k (octs w (F w).r)) := by
  have hf := h.f w hw
  have hks := h.ks w hw
  refine ⟨h.nml, fun v hv => ?_, hC', fun v hv => ?_, hfull, by rw [List.length_set]; exact h.bl, fun b hb => ?_, fun v hv i h1 h2 => ?_, fun v hv => ?_⟩
  · rw [setF_at]; split
    · refine ⟨by show ((F w).put k).z ≤ (F w).n + 1; lia, hf.b, by show (F w).n + 1 ≤ 5; lia, fun q => hc (by rw [LF.put_r] at q; exact q), fun i q1 q2 => ?_⟩
      show upd (F w).blk (F w).r k i < 8
      unfold upd; split
      · lia
      · rw [LF.put_r] at q2
        exact hf.k i q1 (by lia)
    · exact h.f v hv
  · rw [setF_at]; split
    · rename_i e; subst e; rw [LF.put_r]; exact hcr
    · rename_i e; rw [hoth v e]; exact h.cr v hv
  · rcases List.mem_or_eq_of_mem_set hb with q | q
    · exact h.b8 b q
    · rw [q]; rfl
  · rw [setF_at] at h1 h2 ⊢
    have hbl := h.bl
    by_cases e : v = w
    · subst e
      rw [if_pos rfl] at h1 h2 ⊢
      rw [LF.put_r] at h2
      show upd (F v).blk (F v).r k i < k + 1 ∧ (bs.set k _)[upd (F v).blk (F v).r k i]? = _
      unfold upd
      split
      · rename_i q; subst q
        refine ⟨by lia, ?_⟩
        rw [List.getElem?_set_self (by lia)]
      · obtain ⟨q1, q2⟩ := h.cont v hv i h1 (by lia)
        refine ⟨by lia, ?_⟩
        rw [List.getElem?_set_ne (by lia)]; exact q2
    · rw [if_neg e] at h1 h2 ⊢
      obtain ⟨q1, q2⟩ := h.cont v hv i h1 h2
      refine ⟨by lia, ?_⟩
      rw [List.getElem?_set_ne (by lia)]; exact q2
  · rw [setF_at]; split
    · show (F w).n + 1 ≤ k + 1; lia
    · have := h.ks v hv; lia
theorem Full.write {L : List En} {i s : Nat} {e e' : En} (h : Full L k) (hk : k < 8) (hi : L[i]? = some e) (hs : e.map[s]? = some 0) (he : e'.map = e.map.set s ((16 + k : Nat) : Int)) : Full (L.set i e') (k + 1) :=
  ⟨by rw [List.length_set]; exact h.len, (flat_set hi hs (by lia) he).trans ((h.perm.cons _).trans blocksN_succ), by lia⟩
theorem Inv.near (h : Inv nm F C k bs) (hw : w < 2) (hk : k < 5) {x : Nat} : nearP (usedP (pad (dirL nm F C))) 48 (min (maxI (mapF (F w).b (F w).r (F w).blk x)).toNat 24) (maxI (mapF (F w).b (F w).r (F w).blk x)).toNat = some (16 + k) := by
  have hb := maxI_bd (xs := mapF (F w).b (F w).r (F w).blk x) (M := 16 + (k : Int) - 1) (fun v hv => by
    rcases mapF_mem hv with q | ⟨i, q1, q2, q3⟩
    · lia
    · have := (h.cont w hw i q1 q2).1
      lia) (by lia)
  exact h.full.near (by lia) (by lia)
/-- a write that stays in its extent -/
theorem Inv.stay (h : Inv nm F C k bs) (hw : w < 2) (hk : k < 5) (hr : (F w).r ≠ 16) :
    Wrote nm F C w k bs (pad (dirL nm F C)) ((F w).fcb (nm w)) ((F w).r - 16 * (F w).ex) C := by
  have hf := h.f w hw
  have hcr := h.cr w hw
  have hn := hf.n
  have hb := hf.b
  have hzn := hf.z
  have hks := h.ks w hw
  by_cases hr0 : (F w).r ≤ 16
  · have hex : (F w).ex = 0 := by unfold LF.ex; rw [if_pos hr0]
    have hnc : w ∉ C := fun q => by have := hcr.mp q; lia
    have hz' : ((F w).put k).z = (F w).z := by
      show (if (F w).r % 16 = 0 then (F w).n else (F w).z) = (F w).z
      split
      · unfold LF.r at *; lia
      · rfl
    rw [hex]
    have hfull : Full (dirL nm (setF F w ((F w).put k)) C) (k + 1) ∧ pad (dirL nm (setF F w ((F w).put k)) C) = (pad (dirL nm F C)).set w (some ⟨w, nm w, (0 : Nat), (((F w).cnt 0 : Nat) : Int), (mapF (F w).b (F w).r (F w).blk 0).set ((F w).r) ((16 + k : Nat) : Int)⟩) := by
      have hs : (mapF (F w).b (F w).r (F w).blk 0)[(F w).r]? = some 0 := by rw [mapF_get (by lia), if_neg (by lia)]
      have hset : (mapF (F w).b (F w).r (F w).blk 0).set (F w).r ((16 + k : Nat) : Int) = mapF (F w).b ((F w).r + 1) (upd (F w).blk (F w).r k) 0 := mapF_set (by lia) (by lia) (by unfold LF.r; lia)
      have he : (⟨w, nm w, (0 : Nat), (((F w).cnt 0 : Nat) : Int), (mapF (F w).b (F w).r (F w).blk 0).set ((F w).r) ((16 + k : Nat) : Int)⟩ : En) = ((F w).put k).e (nm w) w 0 := by
        rw [hset]
        show En.mk _ _ _ _ _ = En.mk _ _ _ ((((F w).put k).cnt 0 : Nat) : Int) (mapF _ ((F w).put k).r _ _)
        have : ((F w).put k).cnt 0 = (F w).cnt 0 := by
          show (if ((F w).put k).z = 0 then 0 else min 16 ((F w).b + ((F w).put k).z)) = (if (F w).z = 0 then 0 else min 16 ((F w).b + (F w).z))
          rw [hz']
        rw [this, LF.put_r]; rfl
      have hd := dir_upd0 (nm := nm) (F := F) (g := (F w).put k) hw h.sh (fun q => absurd q hnc)
      rw [he, set_pad h.full.len (by rw [dir_len]; lia), hd]
      refine ⟨?_, rfl⟩
      rw [← hd]
      exact h.full.write (by lia) (dir_get0 hw h.sh) (s := (F w).r) hs (by rw [← he]; rfl)
    refine ⟨.inl ⟨?_, rfl, rfl⟩, ?_, by lia, ⟨?_, ?_, w, (F w).e (nm w) w 0, ?_, ?_, ?_⟩, ?_, ?_⟩
    · show (((F w).r - 16 * (F w).ex : Nat) : Int) < 16
      rw [hex]; lia
    · show (((F w).r - 16 * (F w).ex : Nat) : Int) = _
      rw [hex]
    · show (mapF _ _ _ (F w).ex)[_]? = _
      rw [hex, mapF_get (by lia), if_neg (by lia)]
    · show nearP _ 48 (min (maxI (mapF _ _ _ (F w).ex)).toNat 24) (maxI (mapF _ _ _ (F w).ex)).toNat = _
      exact h.near hw hk
    · show findE _ _ (nm w) (((F w).ex : Nat) : Int) = _
      rw [hex]; exact h.e0 hw
    · show (mapF _ _ _ 0)[_]? = _
      rw [mapF_get (by lia), if_neg (by lia)]
    · rw [show (F w).r - 16 * 0 = (F w).r by lia]
      exact hfull.2
    · rw [show (F w).r - 16 * 0 = (F w).r by lia]
      have hex' : ((F w).put k).ex = 0 := by unfold LF.ex; rw [LF.put_r, if_pos (by lia)]
      show Fcb.mk (nm w) (((F w).ex : Nat) : Int) true (max (if (F w).n = 0 then 0 else (((F w).r - 16 * (F w).ex : Nat) : Int)) ((((F w).r : Nat) : Int) + 1)) ((mapF _ _ _ (F w).ex).set _ _) _ =
        Fcb.mk (nm w) ((((F w).put k).ex : Nat) : Int) (decide (((F w).put k).z < (F w).n + 1)) (if (F w).n + 1 = 0 then 0 else ((((F w).put k).r - 16 * ((F w).put k).ex : Nat) : Int)) (mapF (F w).b ((F w).put k).r (upd (F w).blk (F w).r k) ((F w).put k).ex) ((((F w).put k).r - 16 * ((F w).put k).ex : Nat) : Int)
      rw [hex, hex', LF.put_r, hz', mapF_set (by lia) (by lia) (by unfold LF.r; lia), if_neg (show (F w).n + 1 ≠ 0 by lia)]
      have e1 : decide ((F w).z < (F w).n + 1) = true := by simp; lia
      have e2 : max (if (F w).n = 0 then 0 else (((F w).r - 16 * 0 : Nat) : Int)) ((((F w).r : Nat) : Int) + 1) = (((F w).r + 1 - 16 * 0 : Nat) : Int) := by split <;> lia
      rw [e1, e2]
      congr 1
    · refine h.next hw hk h.sh ⟨fun q => absurd q hnc, fun q => by lia⟩ (fun v _ => .rfl) hfull.1 (by rw [hz']; exact hzn) (fun q => by lia)
  · have hex : (F w).ex = 1 := by unfold LF.ex; rw [if_neg hr0]
    have hc : w ∈ C := hcr.mpr (by lia)
    have hbz := hf.c (by lia)
    have hr20 : (F w).r ≤ 20 := by unfold LF.r; lia
    have hz' : ((F w).put k).z = (F w).z := by
      show (if (F w).r % 16 = 0 then (F w).n else (F w).z) = (F w).z
      rw [if_neg (by lia)]
    rw [hex]
    have h00 : ((F w).put k).e (nm w) w 0 = (F w).e (nm w) w 0 := by
      show En.mk _ _ _ ((((F w).put k).cnt 0 : Nat) : Int) (mapF (F w).b ((F w).put k).r (upd (F w).blk (F w).r k) 0) = En.mk _ _ _ (((F w).cnt 0 : Nat) : Int) _
      have : ((F w).put k).cnt 0 = (F w).cnt 0 := by
        show (if ((F w).put k).z = 0 then 0 else min 16 ((F w).b + ((F w).put k).z)) = (if (F w).z = 0 then 0 else min 16 ((F w).b + (F w).z))
        rw [hz']
      rw [this, LF.put_r, mapF_other (by lia)]
    have hfull : Full (dirL nm (setF F w ((F w).put k)) C) (k + 1) ∧ pad (dirL nm (setF F w ((F w).put k)) C) = (pad (dirL nm F C)).set (at1 C w) (some ⟨w, nm w, (1 : Nat), (((F w).cnt 1 : Nat) : Int), (mapF (F w).b (F w).r (F w).blk 1).set ((F w).r - 16) ((16 + k : Nat) : Int)⟩) := by
      have hs : (mapF (F w).b (F w).r (F w).blk 1)[(F w).r - 16]? = some 0 := by rw [mapF_get (by lia), if_neg (by lia)]
      have hset : (mapF (F w).b (F w).r (F w).blk 1).set ((F w).r - 16) ((16 + k : Nat) : Int) = mapF (F w).b ((F w).r + 1) (upd (F w).blk (F w).r k) 1 := mapF_set (by lia) (by lia) (by unfold LF.r; lia)
      have he : (⟨w, nm w, (1 : Nat), (((F w).cnt 1 : Nat) : Int), (mapF (F w).b (F w).r (F w).blk 1).set ((F w).r - 16) ((16 + k : Nat) : Int)⟩ : En) = ((F w).put k).e (nm w) w 1 := by
        rw [hset]
        show En.mk _ _ _ _ _ = En.mk _ _ _ ((((F w).put k).cnt 1 : Nat) : Int) (mapF _ ((F w).put k).r _ _)
        have : ((F w).put k).cnt 1 = (F w).cnt 1 := by
          show (F w).b + ((F w).put k).z - 16 = (F w).b + (F w).z - 16
          rw [hz']
        rw [this, LF.put_r]; rfl
      have hd := dir_upd1 (nm := nm) (F := F) (g := (F w).put k) hw h.sh hc h00
      rw [he, set_pad h.full.len (at1_lt hw h.sh hc), hd]
      refine ⟨?_, rfl⟩
      rw [← hd]
      exact h.full.write (by lia) (dir_get1 hw h.sh hc) (s := (F w).r - 16) hs (by rw [← he]; rfl)
    refine ⟨.inl ⟨?_, rfl, rfl⟩, ?_, by lia, ⟨?_, ?_, at1 C w, (F w).e (nm w) w 1, ?_, ?_, ?_⟩, ?_, ?_⟩
    · show (((F w).r - 16 * (F w).ex : Nat) : Int) < 16
      rw [hex]; lia
    · show (((F w).r - 16 * (F w).ex : Nat) : Int) = _
      rw [hex]
    · show (mapF _ _ _ (F w).ex)[_]? = _
      rw [hex, mapF_get (by lia), if_neg (by lia)]
    · show nearP _ 48 (min (maxI (mapF _ _ _ (F w).ex)).toNat 24) (maxI (mapF _ _ _ (F w).ex)).toNat = _
      exact h.near hw hk
    · show findE _ _ (nm w) (((F w).ex : Nat) : Int) = _
      rw [hex]
      have := h.e1 hw
      rw [if_pos hc] at this
      exact this
    · show (mapF _ _ _ 1)[_]? = _
      rw [mapF_get (by lia), if_neg (by lia)]
    · rw [show (F w).r - 16 * 1 = (F w).r - 16 by lia]
      exact hfull.2
    · rw [show (F w).r - 16 * 1 = (F w).r - 16 by lia]
      have hex' : ((F w).put k).ex = 1 := by unfold LF.ex; rw [LF.put_r, if_neg (by lia)]
      show Fcb.mk (nm w) (((F w).ex : Nat) : Int) true (max (if (F w).n = 0 then 0 else (((F w).r - 16 * (F w).ex : Nat) : Int)) ((((F w).r - 16 : Nat) : Int) + 1)) ((mapF _ _ _ (F w).ex).set _ _) _ =
        Fcb.mk (nm w) ((((F w).put k).ex : Nat) : Int) (decide (((F w).put k).z < (F w).n + 1)) (if (F w).n + 1 = 0 then 0 else ((((F w).put k).r - 16 * ((F w).put k).ex : Nat) : Int)) (mapF (F w).b ((F w).put k).r (upd (F w).blk (F w).r k) ((F w).put k).ex) ((((F w).put k).r - 16 * ((F w).put k).ex : Nat) : Int)
      rw [hex, hex', LF.put_r, hz', mapF_set (x := 1) (by lia) (by lia) (by unfold LF.r; lia), if_neg (show (F w).n + 1 ≠ 0 by lia)]
      have e1 : decide ((F w).z < (F w).n + 1) = true := by simp; lia
      have e2 : max (if (F w).n = 0 then 0 else (((F w).r - 16 * 1 : Nat) : Int)) ((((F w).r - 16 : Nat) : Int) + 1) = (((F w).r + 1 - 16 * 1 : Nat) : Int) := by split <;> lia
      rw [e1, e2]
      congr 1
      lia
    · refine h.next hw hk h.sh ⟨fun q => by lia, fun q => hc⟩ (fun v _ => .rfl) hfull.1 (by rw [hz']; exact hzn) (fun q => by rw [hz']; exact hbz)
end
set_option maxRecDepth 100000
section
variable {nm : Nat → List Int} {F : Nat → LF} {C : List Nat} {X : List En} {w k : Nat} {bs : List (List Int)} {g : LF}
theorem maxI_zeros {n : Nat} : maxI (zeros n) = 0 := by
  have := maxI_bd (xs := zeros n) (M := 0) (fun x hx => by rw [List.eq_of_mem_replicate hx]; decide) (by decide)
  lia
/-- a write that goes on to the next extent -/
theorem Inv.cross (h : Inv nm F C k bs) (hw : w < 2) (hk : k < 5) (hr : (F w).r = 16) :
    Wrote nm F C w k bs (pad (dirL nm (setF F w (F w).shut) (C ++ [w]))) ⟨nm w, 1, false, 0, zeros 16, 0⟩ 0 (C ++ [w]) := by
  have hf := h.f w hw
  have hcr := h.cr w hw
  have hn := hf.n
  have hb := hf.b
  have hzn := hf.z
  have hks := h.ks w hw
  have hex : (F w).ex = 0 := by unfold LF.ex; rw [if_pos (by lia)]
  have hnc : w ∉ C := fun q => by have := hcr.mp q; lia
  obtain ⟨hcl, hinv, hsf⟩ := h.close hw
  obtain ⟨hsh, hCl⟩ := sh_snoc hw h.sh hnc
  have hn0 : (F w).n ≠ 0 := by unfold LF.r at hr; lia
  have hr16 : (F w).b + (F w).n = 16 := hr
  -- the new entry
  have hnew : (⟨w, nm w, 1, 0, zeros 16⟩ : En) = (F w).shut.e (nm w) w 1 := by
    show En.mk _ _ _ _ _ = En.mk _ _ ((1 : Nat) : Int) (((F w).shut.cnt 1 : Nat) : Int) (mapF (F w).b (F w).shut.r (F w).blk 1)
    have e1 : (F w).shut.cnt 1 = 0 := by show (F w).b + (F w).n - 16 = 0; lia
    have e2 : mapF (F w).b (F w).shut.r (F w).blk 1 = zeros 16 := mapF_zero (.inr (by show (F w).b + (F w).n ≤ 16; lia))
    rw [e1, e2]; rfl
  have hl1 : (dirL nm (setF F w (F w).shut) C).length < 4 := by rw [dir_len]; lia
  have hself : (setF F w (F w).shut) w = (F w).shut := setF_self
  have hsn := dir_snoc (nm := nm) (F := setF F w (F w).shut) (g := (F w).shut) hw h.sh hnc (by rw [hself])
  rw [setF_setF] at hsn
  have hs1 : pad (dirL nm (setF F w (F w).shut) (C ++ [w])) = (pad (dirL nm (setF F w (F w).shut) C)).set (dirL nm (setF F w (F w).shut) C).length (some ⟨w, nm w, 1, 0, zeros 16⟩) := by
    rw [snoc_pad hl1, hnew, hsn]
  have hmz : ((F w).shut.e (nm w) w 1).map = zeros 16 := by rw [← hnew]
  have hfull1 : Full (dirL nm (setF F w (F w).shut) (C ++ [w])) k := by
    rw [← hsn]
    exact ⟨by rw [List.length_append]; simp; lia, by rw [flat_snoc hmz]; exact hinv.full.perm, hinv.full.k8⟩
  have hlen1 : (dirL nm (setF F w (F w).shut) (C ++ [w]) ++ []).length ≤ 4 := by rw [List.append_nil]; exact hfull1.len
  have hf1 := find_e1 (nm := nm) (F := setF F w (F w).shut) (X := []) hsh hw hlen1 (fun e he => by cases he)
  rw [List.append_nil, if_pos (by simp), hself] at hf1
  have hz' : ((F w).put k).z = (F w).n := by
    show (if (F w).r % 16 = 0 then (F w).n else (F w).z) = _
    rw [if_pos (by lia)]
  have h00 : ((F w).put k).e (nm w) w 0 = ((setF F w (F w).shut) w).e (nm w) w 0 := by
    rw [hself]
    show En.mk _ _ _ ((((F w).put k).cnt 0 : Nat) : Int) (mapF (F w).b ((F w).put k).r (upd (F w).blk (F w).r k) 0) = En.mk _ _ _ (((F w).shut.cnt 0 : Nat) : Int) (mapF _ (F w).r _ _)
    have : ((F w).put k).cnt 0 = (F w).shut.cnt 0 := by
      show (if ((F w).put k).z = 0 then 0 else min 16 ((F w).b + ((F w).put k).z)) = (if (F w).n = 0 then 0 else min 16 ((F w).b + (F w).n))
      rw [hz']
    rw [this, LF.put_r, mapF_other (by lia)]; rfl
  have hd := dir_upd1 (nm := nm) (F := setF F w (F w).shut) (g := (F w).put k) (C := C ++ [w]) hw hsh (by simp) h00
  rw [setF_setF] at hd
  have hset : (zeros 16).set 0 ((16 + k : Nat) : Int) = mapF (F w).b ((F w).r + 1) (upd (F w).blk (F w).r k) 1 := by
    have := mapF_set (b := (F w).b) (r := (F w).r) (x := 1) (s := 0) (j := k) (blk := (F w).blk) (by lia) (by decide) (by lia)
    rw [mapF_zero (.inr (by lia))] at this
    exact this
  have hmx : mapF (F w).b ((F w).r + 1) (upd (F w).blk (F w).r k) 1 = mapF (F w).b ((F w).put k).r (upd (F w).blk (F w).r k) 1 := by rw [LF.put_r]
  have he2 : (⟨((F w).shut.e (nm w) w 1).user, ((F w).shut.e (nm w) w 1).raw, ((F w).shut.e (nm w) w 1).ext, ((F w).shut.e (nm w) w 1).cnt, ((F w).shut.e (nm w) w 1).map.set 0 ((16 + k : Nat) : Int)⟩ : En) = ((F w).put k).e (nm w) w 1 := by
    rw [hmz, hset, hmx]
    show En.mk _ _ _ (((F w).shut.cnt 1 : Nat) : Int) _ = En.mk _ _ _ ((((F w).put k).cnt 1 : Nat) : Int) _
    have : ((F w).put k).cnt 1 = (F w).shut.cnt 1 := by
      show (F w).b + ((F w).put k).z - 16 = (F w).b + (F w).n - 16
      rw [hz']
    rw [this]; rfl
  have hm0 : ((F w).shut.e (nm w) w 1).map[0]? = some 0 := by rw [hmz]; rfl
  have hg1 := dir_get1 (nm := nm) (F := setF F w (F w).shut) (C := C ++ [w]) hw hsh (by simp)
  rw [hself] at hg1
  have hex' : ((F w).put k).ex = 1 := by unfold LF.ex; rw [LF.put_r, if_neg (by lia)]
  refine ⟨.inr ⟨?_, ?_, _, (dirL nm (setF F w (F w).shut) C).length, hcl, ?_, ?_, ?_, ?_⟩, rfl, by decide, ⟨rfl, ?_, at1 (C ++ [w]) w, (F w).shut.e (nm w) w 1, hf1, hm0, ?_⟩, ?_, ?_⟩
  · show 16 ≤ (((F w).r - 16 * (F w).ex : Nat) : Int)
    rw [hex]; lia
  · show (((F w).ex : Nat) : Int) + 1 < 32
    rw [hex]; decide
  · show findE _ _ (nm w) ((((F w).ex : Nat) : Int) + 1) = none
    rw [hex]
    have := hinv.e1 hw
    rw [if_neg hnc] at this
    exact this
  · rw [free_pad hinv.full.len, if_pos hl1]
  · show _ = (pad _).set _ (some ⟨_, nm w, (((F w).ex : Nat) : Int) + 1, 0, zeros 16⟩)
    rw [hex]; exact hs1
  · show Fcb.mk _ _ _ _ _ _ = Fcb.mk _ ((((F w).ex : Nat) : Int) + 1) _ _ _ _
    rw [hex]; rfl
  · show nearP _ 48 (min (maxI (zeros 16)).toNat 24) (maxI (zeros 16)).toNat = _
    rw [maxI_zeros]
    exact hfull1.near (by lia) (by simp; lia)
  · rw [he2, set_pad hfull1.len (at1_lt hw hsh (by simp)), hd]
  · show Fcb.mk (nm w) 1 true (max 0 (((0 : Nat) : Int) + 1)) ((zeros 16).set 0 _) _ = Fcb.mk (nm w) ((((F w).put k).ex : Nat) : Int) (decide (((F w).put k).z < (F w).n + 1)) (if (F w).n + 1 = 0 then 0 else ((((F w).put k).r - 16 * ((F w).put k).ex : Nat) : Int)) (mapF (F w).b ((F w).put k).r (upd (F w).blk (F w).r k) ((F w).put k).ex) ((((F w).put k).r - 16 * ((F w).put k).ex : Nat) : Int)
    rw [hex', hset, hmx, hz', LF.put_r, hr, if_neg (show (F w).n + 1 ≠ 0 by lia)]
    have e1 : decide ((F w).n < (F w).n + 1) = true := by simp
    rw [e1]; rfl
  · refine h.next hw hk hsh ⟨fun _ => by lia, fun _ => by simp⟩ (fun v hv => by simp [hv]) ?_ (by rw [hz']; exact Nat.le_refl _) (fun _ => by rw [hz']; lia)
    rw [← hd]
    exact hfull1.write (by lia) hg1 hm0 (by rw [← he2])
theorem most_cl {b : Nat} : ∀ z, mostN ((List.range z).map (b + ·)) = if z = 0 then 0 else b + z
  | 0 => rfl
  | z + 1 => by
    have ih := most_cl (b := b) z
    unfold mostN at ih ⊢
    rw [List.range_succ, List.map_append, List.foldl_append, ih]
    simp
    split <;> lia
/-- what is told -/
theorem Inv.told (h : Inv nm F C k bs) (hw : w < 2) {bs' : List (List Int)} (hl : (dirL nm F C ++ X).length ≤ 4) (hX : ∀ e ∈ X, hitB w (nm w) e = false) (hbs : ∀ j < k, bs'[j]? = bs[j]?) : Told (pad (dirL nm F C ++ X)) bs' w (nm w) (F w).cl := by
  have hf := h.f w hw
  have hcr := h.cr w hw
  have hn := hf.n
  have hb := hf.b
  have hzn := hf.z
  have hmost : mostN (F w).cl = if (F w).z = 0 then 0 else (F w).b + (F w).z := most_cl _
  have hr20 : (F w).r ≤ 20 := by unfold LF.r; lia
  have hrdef : (F w).r = (F w).b + (F w).n := rfl
  have hcl : ∀ r, r ∈ (F w).cl ↔ (F w).b ≤ r ∧ r < (F w).b + (F w).z := fun r => by
    unfold LF.cl
    rw [List.mem_map]
    constructor
    · rintro ⟨i, hi, rfl⟩
      have := List.mem_range.mp hi
      lia
    · intro q
      exact ⟨r - (F w).b, List.mem_range.mpr (by lia), by lia⟩
  have he0 := find_e0 (nm := nm) (F := F) h.sh hw hl hX
  have he1 := find_e1 (nm := nm) (F := F) h.sh hw hl hX
  have c0 : ((F w).e (nm w) w 0).cnt = ((if (F w).z = 0 then 0 else min 16 ((F w).b + (F w).z) : Nat) : Int) := rfl
  have c1 : ((F w).e (nm w) w 1).cnt = (((F w).b + (F w).z - 16 : Nat) : Int) := rfl
  have m0 : ∀ i, i < 16 → ((F w).e (nm w) w 0).map[i]? = some (if (F w).b ≤ 16 * 0 + i ∧ 16 * 0 + i < (F w).r then ((16 + (F w).blk (16 * 0 + i) : Nat) : Int) else 0) := fun i hi => mapF_get hi
  have m1 : ∀ i, i < 16 → ((F w).e (nm w) w 1).map[i]? = some (if (F w).b ≤ 16 * 1 + i ∧ 16 * 1 + i < (F w).r then ((16 + (F w).blk (16 * 1 + i) : Nat) : Int) else 0) := fun i hi => mapF_get hi
  refine ⟨?_, fun r hr => ?_, fun r hr hnr => ?_, fun r hr => ?_, ?_⟩
  · unfold sizeP
    rw [find_dir h.sh hw hl hX, hmost]
    by_cases hc : w ∈ C
    · have hr16 := hcr.mp hc
      have hbz := hf.c hr16
      rw [if_pos hc]
      show max (max 0 (((0 : Nat) : Int) * 16 + ((F w).e (nm w) w 0).cnt)) (((1 : Nat) : Int) * 16 + ((F w).e (nm w) w 1).cnt) = _
      rw [c0, c1]
      split <;> lia
    · rw [if_neg hc]
      show max 0 (((0 : Nat) : Int) * 16 + ((F w).e (nm w) w 0).cnt) = _
      have : ¬ 16 < (F w).r := fun q => hc (hcr.mpr q)
      rw [c0]
      split <;> lia
  · obtain ⟨h1, h2⟩ := (hcl r).mp hr
    have hlt : r < (F w).r := by lia
    obtain ⟨hk1, hk2⟩ := h.cont w hw r h1 hlt
    unfold readP
    by_cases q : r < 16
    · rw [show r / 16 = 0 by lia, show r % 16 = r by lia, show ((0 : Nat) : Int) = 0 from rfl, he0]
      show (if ((F w).e (nm w) w 0).cnt ≤ (r : Int) then none else _) = _
      rw [c0, if_neg (by rw [if_neg (by lia)]; lia), m0 r q, if_pos (by lia)]
      show (if ((16 + (F w).blk (16 * 0 + r) : Nat) : Int) = 0 then none else bs'[(((16 + (F w).blk (16 * 0 + r) : Nat) : Int) - 16).toNat]?) = _
      rw [if_neg (by lia), show 16 * 0 + r = r by lia, show (((16 + (F w).blk r : Nat) : Int) - 16).toNat = (F w).blk r by lia, hbs _ hk1, hk2]
    · have hc : w ∈ C := hcr.mpr (by lia)
      rw [if_pos hc] at he1
      rw [show r / 16 = 1 by lia, show r % 16 = r - 16 by lia, show ((1 : Nat) : Int) = 1 from rfl, he1]
      show (if ((F w).e (nm w) w 1).cnt ≤ ((r - 16 : Nat) : Int) then none else _) = _
      rw [c1, if_neg (by lia), m1 (r - 16) (by lia), if_pos (by lia)]
      show (if ((16 + (F w).blk (16 * 1 + (r - 16)) : Nat) : Int) = 0 then none else bs'[(((16 + (F w).blk (16 * 1 + (r - 16)) : Nat) : Int) - 16).toNat]?) = _
      rw [if_neg (by lia), show 16 * 1 + (r - 16) = r by lia, show (((16 + (F w).blk r : Nat) : Int) - 16).toNat = (F w).blk r by lia, hbs _ hk1, hk2]
  · have hnr' : ¬ ((F w).b ≤ r ∧ r < (F w).b + (F w).z) := fun q => hnr ((hcl r).mpr q)
    have hr21 : r ≤ 20 := by rw [hmost] at hr; split at hr <;> lia
    unfold readP
    by_cases q : r < 16
    · rw [show r / 16 = 0 by lia, show r % 16 = r by lia, show ((0 : Nat) : Int) = 0 from rfl, he0]
      show (if ((F w).e (nm w) w 0).cnt ≤ (r : Int) then none else _) = _
      rw [c0]
      by_cases hz0 : (F w).z = 0
      · rw [if_pos hz0, if_pos (by lia)]
      · rw [if_neg hz0]
        by_cases hlt : min 16 ((F w).b + (F w).z) ≤ r
        · rw [if_pos (by lia)]
        · rw [if_neg (by lia), m0 r q, if_neg (by lia)]
          rfl
    · rw [show r / 16 = 1 by lia, show r % 16 = r - 16 by lia, show ((1 : Nat) : Int) = 1 from rfl, he1]
      by_cases hc : w ∈ C
      · have hbz := hf.c (hcr.mp hc)
        rw [if_pos hc]
        show (if ((F w).e (nm w) w 1).cnt ≤ ((r - 16 : Nat) : Int) then none else _) = _
        rw [c1, if_pos (by lia)]
      · rw [if_neg hc]
  · have := (hcl r).mp hr; lia
  · unfold LF.cl; simp; lia
end
set_option maxRecDepth 100000
section
variable {nm : Nat → List Int} {F : Nat → LF} {C : List Nat} {X : List En} {w k : Nat} {bs : List (List Int)} {g : LF}
noncomputable def nameC : List Int := 67 :: List.replicate 10 32
noncomputable def nine : List Int := List.replicate 8 9
noncomputable def entC : En := ⟨2, nameC, 0, 0, zeros 16⟩
noncomputable def entC' (k : Nat) : En := entC.wrote 3 (16 + k)
theorem entC_ok : entC.Ok := ⟨rfl, rfl, by decide, by decide⟩
theorem entC'_ok : (entC' k).Ok := ⟨rfl, by show ((zeros 16).set 3 _).length = 16; simp [zeros], by show (2 : Int) ≠ 229; decide, by show (0 : Int) ≤ 0 ∧ (0 : Int) < 32; decide⟩
theorem dir_user (hC : Sh C) : ∀ e ∈ dirL nm F C, hitB 2 nameC e = false := by
  intro e he
  have key : ∀ (f : LF) (n : List Int) (v x : Nat), v < 2 → hitB 2 nameC (f.e n v x) = false := fun f n v x hv => by
    show ((v : Int) == 2 && _) = false
    have : ((v : Int) == 2) = false := by simp; lia
    rw [this]; rfl
  unfold dirL at he
  rcases List.mem_append.mp he with q | q
  · rcases List.mem_cons.mp q with rfl | q
    · exact key _ _ 0 0 (by decide)
    · rcases List.mem_cons.mp q with rfl | q
      · exact key _ _ 1 0 (by decide)
      · cases q
  · obtain ⟨v, hv, rfl⟩ := List.mem_map.mp q
    have : v < 2 := by rcases hC with rfl | rfl | rfl | rfl | rfl <;> simp at hv <;> lia
    exact key _ _ v 1 this
theorem other_user {e : En} (he : e.user = 2) (hw : w < 2) {n : List Int} : hitB w n e = false := by
  unfold hitB
  have : (e.user == (w : Int)) = false := by rw [he]; simp; lia
  rw [this]; rfl
theorem find_two {L : List En} {e : En} (hl : (L ++ [e]).length ≤ 4) (hL : ∀ e ∈ L, hitB 2 nameC e = false) (he : hitB 2 nameC e = true) : findP (pad (L ++ [e])) 2 nameC = [(L.length, e)] := by
  rw [find_pad hl, nums_append, List.filter_append]
  have h1 : (nums L).filter (fun p => hitB 2 nameC p.2) = [] := by
    rw [List.filter_eq_nil_iff]
    intro p hp
    unfold nums at hp
    obtain ⟨q, hq, rfl⟩ := List.mem_map.mp hp
    have := hL q.1 (List.fst_mem_of_mem_zipIdx hq)
    simp [this]
  rw [h1]
  simp [List.filter_cons, he]
theorem entC_hit : hitB 2 nameC entC = true := by decide +kernel
theorem entC'_hit : hitB 2 nameC (entC' k) = true := entC_hit
structure Last (nm : Nat → List Int) (F : Nat → LF) (C : List Nat) (k : Nat) (bs : List (List Int)) : Prop where
  free : freeP (pad (dirL nm F C)) = some (dirL nm F C).length
  da1 : Da ((pad (dirL nm F C)).set (dirL nm F C).length (some entC)) bs
  all : ∀ p ∈ findP ((pad (dirL nm F C)).set (dirL nm F C).length (some entC)) 2 nameC, ∃ v, p.2.raw[8]? = some v ∧ v < 128
  find : findE ((pad (dirL nm F C)).set (dirL nm F C).length (some entC)) 2 nameC 0 = some ((dirL nm F C).length, entC)
  last : lastP ((pad (dirL nm F C)).set (dirL nm F C).length (some entC)) 2 nameC = 0
  near : nearP (usedP ((pad (dirL nm F C)).set (dirL nm F C).length (some entC))) 48 0 0 = some (16 + k)
  da2 : Da (((pad (dirL nm F C)).set (dirL nm F C).length (some entC)).set (dirL nm F C).length (some (entC' k))) (bs.set k nine)
  ok : okL [] (liveP (((pad (dirL nm F C)).set (dirL nm F C).length (some entC)).set (dirL nm F C).length (some (entC' k)))) = true
  many : (freeI (usedP (((pad (dirL nm F C)).set (dirL nm F C).length (some entC)).set (dirL nm F C).length (some (entC' k)))) 24).length + (k + 1) = 8
  told : ∀ w, w < 2 → Told (((pad (dirL nm F C)).set (dirL nm F C).length (some entC)).set (dirL nm F C).length (some (entC' k))) (bs.set k nine) w (nm w) (F w).cl
  read : readP (((pad (dirL nm F C)).set (dirL nm F C).length (some entC)).set (dirL nm F C).length (some (entC' k))) (bs.set k nine) 2 nameC 3 = some nine
theorem Inv.last (h : Inv nm F C k bs) (hk : k ≤ 5) (hC : C.length < 2) : Last nm F C k bs := by
  have hl : (dirL nm F C).length < 4 := by rw [dir_len]; lia
  have hl2 : ∀ e : En, (dirL nm F C ++ [e]).length ≤ 4 := fun e => by rw [List.length_append]; simp; lia
  have e1 := snoc_pad (e := entC) hl
  have hset : (dirL nm F C ++ [entC]).set (dirL nm F C).length (entC' k) = dirL nm F C ++ [entC' k] := by
    rw [List.set_append_right _ _ (Nat.le_refl _), Nat.sub_self]; rfl
  have e2 : ((pad (dirL nm F C)).set (dirL nm F C).length (some entC)).set (dirL nm F C).length (some (entC' k)) = pad (dirL nm F C ++ [entC' k]) := by
    rw [e1, set_pad (hl2 _) (by simp), hset]
  have hd := dir_user (nm := nm) (F := F) h.sh
  have f1 := find_two (hl2 entC) hd entC_hit
  have f2 := find_two (hl2 (entC' k)) hd (entC'_hit (k := k))
  have hfull : Full (dirL nm F C ++ [entC]) k := ⟨hl2 _, by rw [flat_snoc rfl]; exact h.full.perm, h.full.k8⟩
  have hget : (dirL nm F C ++ [entC])[(dirL nm F C).length]? = some entC := by simp
  have hfull2 : Full (dirL nm F C ++ [entC' k]) (k + 1) := by
    have := hfull.write (e' := entC' k) (by lia) hget (s := 3) rfl rfl
    rwa [hset] at this
  have hbl := h.bl
  have hok : ∀ e : En, e.Ok → ∀ e' ∈ dirL nm F C ++ [e], e'.Ok := fun e he e' he' => by
    rcases List.mem_append.mp he' with q | q
    · exact dir_ok h.nml h.sh e' q
    · rw [List.mem_singleton.mp q]; exact he
  refine ⟨?_, ?_, ?_, ?_, ?_, ?_, ?_, ?_, ?_, ?_, ?_⟩
  · rw [free_pad h.full.len, if_pos hl]
  · rw [e1]; exact da_pad (hl2 _) (hok _ entC_ok) h.bl h.b8
  · rw [e1, f1]
    intro p hp
    rw [List.mem_singleton.mp hp]
    exact ⟨32, rfl, by decide⟩
  · unfold findE
    rw [e1, f1]; rfl
  · unfold lastP
    rw [e1, f1]
    rfl
  · rw [e1]
    exact hfull.near (near := 0) (by lia) (by lia)
  · rw [e2]
    refine da_pad (hl2 _) (hok _ entC'_ok) (by rw [List.length_set]; exact h.bl) fun b hb => ?_
    rcases List.mem_or_eq_of_mem_set hb with q | q
    · exact h.b8 b q
    · rw [q]; rfl
  · rw [e2]; exact hfull2.ok
  · rw [e2]; exact hfull2.free
  · intro w hw
    rw [e2]
    refine h.told hw (hl2 _) (fun e he => ?_) fun j hj => by rw [List.getElem?_set_ne (by lia)]
    rw [List.mem_singleton.mp he]
    exact other_user rfl hw
  · unfold readP findE
    rw [e2, f2]
    show (if max 0 (((3 : Nat) : Int) + 1) ≤ ((3 % 16 : Nat) : Int) then none else match ((zeros 16).set 3 ((16 + k : Nat) : Int))[3 % 16]? with | none => none | some b => if b = 0 then none else (bs.set k nine)[(b - 16).toNat]?) = some nine
    rw [if_neg (by decide)]
    show (if ((16 + k : Nat) : Int) = 0 then none else (bs.set k nine)[(((16 + k : Nat) : Int) - 16).toNat]?) = some nine
    rw [if_neg (by lia), show (((16 + k : Nat) : Int) - 16).toNat = k by lia, List.getElem?_set_self (by lia)]
theorem Inv.nofree (h : Inv nm F C k bs) (hC : ¬ C.length < 2) : freeP (pad (dirL nm F C)) = none := by
  rw [free_pad h.full.len, if_neg (by rw [dir_len]; lia)]
/-! the beginning -/
noncomputable def beg (b : Nat → Nat) : Nat → LF := fun w => ⟨b w, 0, 0, fun _ => 0⟩
theorem beg_e {b : Nat → Nat} {n : List Int} : (beg b w).e n w 0 = ⟨w, n, 0, 0, zeros 16⟩ := by
  show En.mk _ _ _ _ (mapF (b w) (b w + 0) _ 0) = _
  rw [mapF_zero (.inl (by lia))]; rfl
theorem beg_fcb {b : Nat → Nat} {n : List Int} (hb : b w < 16) : (beg b w).fcb n = ⟨n, 0, false, 0, zeros 16, b w⟩ := by
  have hex : (beg b w).ex = 0 := by unfold LF.ex; rw [if_pos (by show b w + 0 ≤ 16; lia)]
  show Fcb.mk _ (((beg b w).ex : Nat) : Int) _ _ (mapF (b w) (b w + 0) _ _) (((b w + 0 - 16 * (beg b w).ex : Nat) : Int)) = _
  rw [hex, mapF_zero (.inl (by lia))]; rfl
theorem beg_dir {b : Nat → Nat} : dirL nm (beg b) [] = [⟨0, nm 0, 0, 0, zeros 16⟩, ⟨1, nm 1, 0, 0, zeros 16⟩] := by
  show [(beg b 0).e (nm 0) 0 0, (beg b 1).e (nm 1) 1 0] = _
  rw [beg_e, beg_e]; rfl
theorem beg_inv {b : Nat → Nat} (hn : ∀ w, w < 2 → (nm w).length = 11) (hb : ∀ w, w < 2 → b w < 16) : Inv nm (beg b) [] 0 bs0 := by
  refine ⟨hn, fun w hw => ⟨Nat.le_refl _, hb w hw, by show 0 ≤ 5; decide, fun q => ?_, fun i h1 h2 => ?_⟩, .inl rfl, fun w hw => ⟨fun q => (by cases q), fun q => ?_⟩, ?_, rfl, fun b hb => by rw [List.eq_of_mem_replicate hb]; rfl, fun w hw i h1 h2 => ?_, fun w hw => Nat.le_refl _⟩
  · have := hb w hw
    have : 16 < b w + 0 := q
    lia
  · have h1 : b w ≤ i := h1
    have h2 : i < b w + 0 := h2
    lia
  · have := hb w hw
    have : 16 < b w + 0 := q
    lia
  · rw [beg_dir]
    exact ⟨by simp, .refl _, by decide⟩
  · have h1 : b w ≤ i := h1
    have h2 : i < b w + 0 := h2
    lia
end
set_option maxRecDepth 100000
/-! the memory of the law -/
noncomputable def mem2 (f0 f1 : Fcb) (dm : List Int) : List Int := f0.oct ++ (zeros 12 ++ (f1.oct ++ (zeros 20 ++ (dm ++ zeros 16))))
noncomputable def post0 (f1 : Fcb) (dm : List Int) : List Int := zeros 12 ++ (f1.oct ++ (zeros 20 ++ (dm ++ zeros 16)))
noncomputable def pre1 (f0 : Fcb) : List Int := f0.oct ++ zeros 12
noncomputable def post1 (dm : List Int) : List Int := zeros 20 ++ (dm ++ zeros 16)
theorem mem2_0 {f0 f1 : Fcb} {dm : List Int} : mem2 f0 f1 dm = mm [] (post0 f1 dm) f0 := rfl
theorem mem2_1 {f0 f1 : Fcb} {dm : List Int} : mem2 f0 f1 dm = mm (pre1 f0) (post1 dm) f1 := by simp [mem2, mm, pre1, post1]
theorem pre1_len {f0 : Fcb} (h : f0.Ok) : (pre1 f0).length = 48 := by simp [pre1, h.get.len, zeros]
theorem at_0 {f0 f1 : Fcb} {dm : List Int} (h0 : f0.Ok) (h1 : f1.Ok) (hd : dm.length = 8) : FAt [] (post0 f1 dm) f0 := ⟨h0, by simp [post0, h1.get.len, hd, zeros]⟩
theorem at_1 {f0 f1 : Fcb} {dm : List Int} (h0 : f0.Ok) (h1 : f1.Ok) (hd : dm.length = 8) : FAt (pre1 f0) (post1 dm) f1 := ⟨h1, by rw [pre1_len h0]; simp [post1, hd, zeros]⟩
theorem dma_0 {f1 : Fcb} {dm : List Int} (h1 : f1.Ok) (hd : dm.length = 8) : Dma [] (post0 f1 dm) 104 dm := by
  refine ⟨by decide, hd, fun f' hF => ?_⟩
  have e : mm [] (post0 f1 dm) f' = (f'.oct ++ zeros 12 ++ f1.oct ++ zeros 20) ++ (dm ++ zeros 16) := by simp [mm, post0]
  have l : (f'.oct ++ zeros 12 ++ f1.oct ++ zeros 20).length = 104 := by simp [hF.toOk.get.len, h1.get.len, zeros]
  rw [e, List.drop_append_of_le_length (by lia), List.drop_of_length_le (by lia), List.nil_append, List.take_append_of_le_length (by lia), List.take_of_length_le (by lia)]
theorem dma_1 {f0 : Fcb} {dm : List Int} (h0 : f0.Ok) (hd : dm.length = 8) : Dma (pre1 f0) (post1 dm) 104 dm := by
  refine ⟨by decide, hd, fun f' hF => ?_⟩
  have e : mm (pre1 f0) (post1 dm) f' = (f0.oct ++ zeros 12 ++ f'.oct ++ zeros 20) ++ (dm ++ zeros 16) := by simp [mm, post1, pre1]
  have l : (f0.oct ++ zeros 12 ++ f'.oct ++ zeros 20).length = 104 := by simp [hF.toOk.get.len, h0.get.len, zeros]
  rw [e, List.drop_append_of_le_length (by lia), List.drop_of_length_le (by lia), List.nil_append, List.take_append_of_le_length (by lia), List.take_of_length_le (by lia)]
theorem mem2_dma {f0 f1 : Fcb} {dm oc : List Int} (h0 : f0.Ok) (h1 : f1.Ok) (hd : dm.length = 8) : (aints (mem2 f0 f1 dm)).take 104 ++ aints oc ++ (aints (mem2 f0 f1 dm)).drop 112 = aints (mem2 f0 f1 oc) := by
  have e : mem2 f0 f1 dm = (f0.oct ++ zeros 12 ++ f1.oct ++ zeros 20) ++ (dm ++ zeros 16) := by simp [mem2]
  have l : (f0.oct ++ zeros 12 ++ f1.oct ++ zeros 20).length = 104 := by simp [h0.get.len, h1.get.len, zeros]
  have ht : (mem2 f0 f1 dm).take 104 = f0.oct ++ zeros 12 ++ f1.oct ++ zeros 20 := by
    rw [e, List.take_append_of_le_length (by lia), List.take_of_length_le (by lia)]
  have hr : (mem2 f0 f1 dm).drop 112 = zeros 16 := by
    have e2 : mem2 f0 f1 dm = (f0.oct ++ zeros 12 ++ f1.oct ++ zeros 20 ++ dm) ++ zeros 16 := by simp [mem2]
    have l2 : (f0.oct ++ zeros 12 ++ f1.oct ++ zeros 20 ++ dm).length = 112 := by rw [List.length_append, l, hd]
    rw [e2, List.drop_append_of_le_length (by lia), List.drop_of_length_le (by lia), List.nil_append]
  have : (aints (mem2 f0 f1 dm)).take 104 ++ aints oc ++ (aints (mem2 f0 f1 dm)).drop 112 = aints ((mem2 f0 f1 dm).take 104 ++ oc ++ (mem2 f0 f1 dm).drop 112) := by simp [aints, List.map_take, List.map_drop]
  rw [this, ht, hr]
  simp [mem2]
theorem mem_new0 {f : Fcb} : (aints (zeros 128)).take 0 ++ aints f.oct ++ (aints (zeros 128)).drop 36 = aints (mm [] (zeros 92) f) := by
  have : (aints (zeros 128)).drop 36 = aints (zeros 92) := by simp [aints, zeros]
  rw [this]; simp [mm, aints]
theorem mem_new1 {f0 f : Fcb} (h0 : f0.Ok) : (aints (mm [] (zeros 92) f0)).take 48 ++ aints f.oct ++ (aints (mm [] (zeros 92) f0)).drop 84 = aints (mm (pre1 f0) (zeros 44) f) := by
  have e : mm [] (zeros 92) f0 = pre1 f0 ++ (zeros 36 ++ zeros 44) := by simp [mm, pre1, zeros]
  have l := pre1_len h0
  have ht : (mm [] (zeros 92) f0).take 48 = pre1 f0 := by rw [e, List.take_append_of_le_length (by lia), List.take_of_length_le (by lia)]
  have hr : (mm [] (zeros 92) f0).drop 84 = zeros 44 := by
    have e2 : mm [] (zeros 92) f0 = (pre1 f0 ++ zeros 36) ++ zeros 44 := by rw [e]; simp
    have l2 : (pre1 f0 ++ zeros 36).length = 84 := by rw [List.length_append, l]; rfl
    rw [e2, List.drop_append_of_le_length (by lia), List.drop_of_length_le (by lia), List.nil_append]
  have : (aints (mm [] (zeros 92) f0)).take 48 ++ aints f.oct ++ (aints (mm [] (zeros 92) f0)).drop 84 = aints ((mm [] (zeros 92) f0).take 48 ++ f.oct ++ (mm [] (zeros 92) f0).drop 84) := by simp [aints, List.map_take, List.map_drop]
  rw [this, ht, hr]
  simp [mm]
theorem mem_full {f0 f1 : Fcb} : mm (pre1 f0) (zeros 44) f1 = mem2 f0 f1 (zeros 8) := by
  rw [mem2_1]; rfl
/-! names, begins -/
noncomputable def nameN (v : Nat) : List Int := (65 + (v : Int)) :: List.replicate 10 32
noncomputable def two {α : Type} (a b : α) : Nat → α := fun w => if w = 0 then a else b
theorem beg_pick {v : Nat} (h : v < 3) : ∃ b : Nat, b < 16 ∧ [AV.int 0, .int 13, .int 15][((v : Nat) : Int).toNat]? = some (.int ((b : Nat) : Int)) := by
  have : v = 0 ∨ v = 1 ∨ v = 2 := by lia
  rcases this with rfl | rfl | rfl
  · exact ⟨0, by decide, rfl⟩
  · exact ⟨13, by decide, rfl⟩
  · exact ⟨15, by decide, rfl⟩
noncomputable def fcbNew (v : Nat) : Fcb := ⟨nameN v, 0, true, 0, zeros 16, 0⟩
noncomputable def fcbMade (v b : Nat) : Fcb := ⟨nameN v, 0, false, 0, zeros 16, b⟩
theorem fcbNew_ok {v : Nat} : (fcbNew v).Ok := ⟨rfl, rfl, by show (0 : Int) ≤ 0 ∧ (0 : Int) < 32; decide, byte0, byte0, zeros_byte⟩
theorem fcbMade_ok {v b : Nat} (hb : b < 16) : (fcbMade v b).Ok := ⟨rfl, rfl, by show (0 : Int) ≤ 0 ∧ (0 : Int) < 32; decide, byte0, ⟨by show 0 ≤ (b : Int); lia, by show (b : Int) < 256; lia⟩, zeros_byte⟩
theorem fcb_ok {nm : List Int} {f : LF} (h : f.Ok) (hn : nm.length = 11) : (f.fcb nm).Ok := by
  have h1 := h.n
  have h2 := h.b
  have hr : f.r ≤ 20 := by unfold LF.r; lia
  refine ⟨hn, mapF_len, ?_, ?_, ?_, ?_⟩
  · show 0 ≤ ((f.ex : Nat) : Int) ∧ ((f.ex : Nat) : Int) < 32
    unfold LF.ex; split <;> decide
  · show Byte (if f.n = 0 then 0 else ((f.r - 16 * f.ex : Nat) : Int))
    split
    · exact byte0
    · exact ⟨by lia, by lia⟩
  · exact ⟨by show 0 ≤ ((f.r - 16 * f.ex : Nat) : Int); lia, by show ((f.r - 16 * f.ex : Nat) : Int) < 256; lia⟩
  · intro x hx
    rcases mapF_mem hx with q | ⟨k, q1, q2, q3⟩
    · rw [q]; exact byte0
    · have := h.k k q1 q2
      exact ⟨by lia, by lia⟩
set_option maxRecDepth 100000
section
variable {nm : Nat → List Int} {F : Nat → LF} {C : List Nat} {w k : Nat} {bs : List (List Int)} {f : LF}
theorem cl_wt (h : f.z ≤ f.n) : f.cl ++ f.wt = (List.range f.n).map (f.b + ·) := by
  unfold LF.cl LF.wt
  have e : (List.range (f.n - f.z)).map (f.b + f.z + ·) = ((List.range (f.n - f.z)).map (f.z + ·)).map (f.b + ·) := by
    rw [List.map_map]
    exact List.map_congr_left fun i _ => by show f.b + f.z + i = f.b + (f.z + i); lia
  rw [e, ← List.map_append, ← List.range_add, show f.z + (f.n - f.z) = f.n by lia]
theorem shut_cl (h : f.z ≤ f.n) : aints (nats f.cl) ++ aints (nats f.wt) = aints (nats f.shut.cl) := by
  have : f.shut.cl = f.cl ++ f.wt := (cl_wt h).symm
  rw [this]; simp [aints, nats]
theorem shut_wt : ([] : List AV) = aints (nats f.shut.wt) := by
  have : f.shut.wt = [] := by unfold LF.wt LF.shut; simp
  rw [this]; rfl
theorem put_cl_t (h : f.z ≤ f.n) (hr : f.r % 16 = 0) : aints (nats f.cl) ++ aints (nats f.wt) = aints (nats (f.put k).cl) := by
  have : (f.put k).cl = f.cl ++ f.wt := by
    rw [cl_wt h]
    show (List.range (if f.r % 16 = 0 then f.n else f.z)).map (f.b + ·) = _
    rw [if_pos hr]
  rw [this]; simp [aints, nats]
theorem put_wt_t (hr : f.r % 16 = 0) : ([] : List AV) ++ [.int (f.r : Nat)] = aints (nats (f.put k).wt) := by
  have : (f.put k).wt = [f.r] := by
    show (List.range (f.n + 1 - (if f.r % 16 = 0 then f.n else f.z))).map (f.b + (if f.r % 16 = 0 then f.n else f.z) + ·) = _
    rw [if_pos hr, Nat.add_sub_cancel_left]; rfl
  rw [this]; rfl
theorem put_cl_f (hr : ¬ f.r % 16 = 0) : aints (nats f.cl) = aints (nats (f.put k).cl) := by
  have : (f.put k).cl = f.cl := by
    show (List.range (if f.r % 16 = 0 then f.n else f.z)).map (f.b + ·) = _
    rw [if_neg hr]; rfl
  rw [this]
theorem put_wt_f (h : f.z ≤ f.n) (hr : ¬ f.r % 16 = 0) : aints (nats f.wt) ++ [.int (f.r : Nat)] = aints (nats (f.put k).wt) := by
  have : (f.put k).wt = f.wt ++ [f.r] := by
    show (List.range (f.n + 1 - (if f.r % 16 = 0 then f.n else f.z))).map (f.b + (if f.r % 16 = 0 then f.n else f.z) + ·) = _
    rw [if_neg hr, show f.n + 1 - f.z = (f.n - f.z) + 1 by lia, List.range_succ, List.map_append]
    unfold LF.wt
    congr 1
    show [f.b + f.z + (f.n - f.z)] = [f.r]
    unfold LF.r
    rw [show f.b + f.z + (f.n - f.z) = f.b + f.n by lia]
  rw [this]; simp [aints, nats]
theorem Inv.told0 (h : Inv nm F C k bs) (hw : w < 2) : Told (pad (dirL nm F C)) bs w (nm w) (F w).cl := by
  have := h.told (X := []) hw h.len (fun e he => by cases he) (fun j _ => rfl)
  rwa [List.append_nil] at this
theorem Inv.fcb0 (h : Inv nm F C k bs) : ((F 0).fcb (nm 0)).Ok := fcb_ok (h.f 0 (by decide)) (h.nml 0 (by decide))
theorem Inv.fcb1 (h : Inv nm F C k bs) : ((F 1).fcb (nm 1)).Ok := fcb_ok (h.f 1 (by decide)) (h.nml 1 (by decide))
theorem Inv.wrote (h : Inv nm F C k bs) (hw : w < 2) (hk : k < 5) : ∃ s1 f1 slot C', Wrote nm F C w k bs s1 f1 slot C' := by
  by_cases q : (F w).r = 16
  · exact ⟨_, _, _, _, h.cross hw hk q⟩
  · exact ⟨_, _, _, _, h.stay hw hk q⟩
end
set_option maxRecDepth 100000
set_option maxHeartbeats 4000000
section
variable {c : Cx} {n : Nat} {sc : Scope} {σ σ' Z : Hp} {m m' : Lm}
/-- the files of the law, as they are made -/
noncomputable def J1 (c : Cx) (cs : List Int) (fd cl me d dx g dt fl : Addr) : Nat → Hp → Prop
  | 0, ρ => ρ = [(fl, .list []), (dt, .list (aints (dat ss0 bs0))), (me, .list (aints (zeros 128))), (dx, .attrs (diskFs g dt)), (g, .list (aints [])), (d, .inst c.cD dx), (fd, .list [.ref cl, .int ((0 : Nat) : Int)]), (cl, .list (aints cs))]
  | 1, ρ => ∃ (v b : Nat) (F0 n0 c0 w0 : Addr), b < 16 ∧ ρ = [(F0, .list [.ref n0, .int (b : Nat), .ref c0, .ref w0]), (n0, .list (aints (nameN v))), (c0, .list (aints (nats []))), (w0, .list (aints (nats []))), (fl, .list [.ref F0]), (dt, .list (aints (dat [some ⟨0, nameN v, 0, 0, zeros 16⟩, none, none, none] bs0))), (me, .list (aints (mm [] (zeros 92) (fcbMade v b)))), (dx, .attrs (diskFs g dt)), (g, .list (aints [])), (d, .inst c.cD dx), (fd, .list [.ref cl, .int ((2 : Nat) : Int)]), (cl, .list (aints cs))]
  | _, ρ => ∃ (v b : Nat) (F0 n0 c0 w0 : Addr) (v' b' : Nat) (F1 n1 c1 w1 : Addr), b < 16 ∧ b' < 16 ∧ ρ = [(F1, .list [.ref n1, .int (b' : Nat), .ref c1, .ref w1]), (n1, .list (aints (nameN v'))), (c1, .list (aints (nats []))), (w1, .list (aints (nats []))), (F0, .list [.ref n0, .int (b : Nat), .ref c0, .ref w0]), (n0, .list (aints (nameN v))), (c0, .list (aints (nats []))), (w0, .list (aints (nats []))), (fl, .list [.ref F0, .ref F1]), (dt, .list (aints (dat [some ⟨0, nameN v, 0, 0, zeros 16⟩, some ⟨1, nameN v', 0, 0, zeros 16⟩, none, none] bs0))), (me, .list (aints (mm (pre1 (fcbMade v b)) (zeros 44) (fcbMade v' b')))), (dx, .attrs (diskFs g dt)), (g, .list (aints [])), (d, .inst c.cD dx), (fd, .list [.ref cl, .int ((4 : Nat) : Int)]), (cl, .list (aints cs))]
theorem bindA_mem : ∀ (l : List (Str × AV)) (m0 : Lm) {x : Str} {v : AV}, bindA l m0 x = some v → (x, v) ∈ l ∨ m0 x = some v
  | [], m0, x, v, h => .inr h
  | (y, w) :: r, m0, x, v, h => by
    rcases bindA_mem r (mput m0 y w) h with q | q
    · exact .inl (.tail _ q)
    · unfold mput at q
      split at q
      · rename_i e; cases q; rw [e]; exact .inl (.head _)
      · exact .inr q
theorem has_of {l : List (Str × AV)} {m : Lm} (h : ∀ p ∈ l, m p.1 = some p.2) : Has (bindA l fun _ => none) m := fun x v hx => by
  rcases bindA_mem l _ hx with q | q
  · exact h _ q
  · cases q
/-- the names of the law -/
noncomputable def mL (fd me d fl : Addr) (k : Nat) : Lm := bindA [("feed", .ref fd), ("memory", .ref me), ("disk", .ref d), ("files", .ref fl), ("many", .int (k : Nat))] fun _ => none
theorem has_mL {fd me d fl : Addr} {k : Nat} {m : Lm} (h1 : m "feed" = some (.ref fd)) (h2 : m "memory" = some (.ref me)) (h3 : m "disk" = some (.ref d)) (h4 : m "files" = some (.ref fl)) (h5 : m "many" = some (.int (k : Nat))) : Has (mL fd me d fl k) m := by
  refine has_of fun p hp => ?_
  rcases List.mem_cons.mp hp with rfl | hp
  · exact h1
  rcases List.mem_cons.mp hp with rfl | hp
  · exact h2
  rcases List.mem_cons.mp hp with rfl | hp
  · exact h3
  rcases List.mem_cons.mp hp with rfl | hp
  · exact h4
  rcases List.mem_cons.mp hp with rfl | hp
  · exact h5
  · cases hp
/-- the heap of the law -/
noncomputable def hL (c : Cx) (cs : List Int) (fd cl me d dx dt fl : Addr) (nm : Nat → List Int) (g : Addr) (F : Nat → LF) (C : List Nat) (bs : List (List Int)) (t : Nat) (dm : List Int) (F0 F1 n0 n1 c0 c1 w0 w1 : Addr) : Hp :=
  (dt, .list (aints (dat (pad (dirL nm F C)) bs))) :: (me, .list (aints (mem2 ((F 0).fcb (nm 0)) ((F 1).fcb (nm 1)) dm))) :: (dx, .attrs (diskFs g dt)) :: (g, .list (aints [])) :: (d, .inst c.cD dx) :: (fl, .list [.ref F0, .ref F1]) ::
  (F0, .list [.ref n0, .int ((F 0).r : Nat), .ref c0, .ref w0]) :: (n0, .list (aints (nm 0))) :: (c0, .list (aints (nats (F 0).cl))) :: (w0, .list (aints (nats (F 0).wt))) ::
  (F1, .list [.ref n1, .int ((F 1).r : Nat), .ref c1, .ref w1]) :: (n1, .list (aints (nm 1))) :: (c1, .list (aints (nats (F 1).cl))) :: (w1, .list (aints (nats (F 1).wt))) ::
  (fd, .list [.ref cl, .int (t : Nat)]) :: (cl, .list (aints cs)) :: []
noncomputable def J2 (c : Cx) (cs : List Int) (fd cl me d dx dt fl : Addr) (nm : Nat → List Int) (i : Nat) (ρ : Hp) (m : Lm) : Prop :=
  ∃ g F C k bs t dm F0 F1 n0 n1 c0 c1 w0 w1, Inv nm F C k bs ∧ k ≤ i ∧ t ≤ 5 + 2 * i ∧ dm.length = 8 ∧ m = mL fd me d fl k ∧ ρ = hL c cs fd cl me d dx dt fl nm g F C bs t dm F0 F1 n0 n1 c0 c1 w0 w1
noncomputable def mT (fd me d fl : Addr) (k : Nat) : Lm := bindA [("code", .int 0), ("feed", .ref fd), ("memory", .ref me), ("disk", .ref d), ("files", .ref fl), ("many", .int (k : Nat))] fun _ => none
theorem has_mT {fd me d fl : Addr} {k : Nat} {m : Lm} (h0 : m "code" = some (.int 0)) (h1 : m "feed" = some (.ref fd)) (h2 : m "memory" = some (.ref me)) (h3 : m "disk" = some (.ref d)) (h4 : m "files" = some (.ref fl)) (h5 : m "many" = some (.int (k : Nat))) : Has (mT fd me d fl k) m := by
  refine has_of fun p hp => ?_
  rcases List.mem_cons.mp hp with rfl | hp
  · exact h0
  rcases List.mem_cons.mp hp with rfl | hp
  · exact h1
  rcases List.mem_cons.mp hp with rfl | hp
  · exact h2
  rcases List.mem_cons.mp hp with rfl | hp
  · exact h3
  rcases List.mem_cons.mp hp with rfl | hp
  · exact h4
  rcases List.mem_cons.mp hp with rfl | hp
  · exact h5
  · cases hp
noncomputable def forB : Stmt → List Stmt
  | .For _ _ b _ _ => b
  | _ => []
noncomputable def lawSc : Scope := ((defOf "law").map Df.scope).getD { kind := .function, names := [], isGenerator := false, isCoroutine := false }
noncomputable def lawMid : List Stmt := ((defOf "law").map fun d => (((d.body.drop 3).head?.map forB).getD []).drop 1).getD []
noncomputable def lawRest : List Stmt := lawMid.drop 2
theorem open_if {P : List Stmt → Prop} {L : List Stmt} {t : Expr} {b o : List Stmt} {pos : Pos} (e : L = [.If t b o pos]) (h : P [.If t b o pos]) : P L := e ▸ h
/-- the end of a turn -/
theorem law_tail {cs : List Int} {fd cl me d dx dt fl g F0 F1 n0 n1 c0 c1 w0 w1 : Addr} {nm : Nat → List Int} {F : Nat → LF} {C : List Nat} {k t i : Nat} {bs : List (List Int)} {dm : List Int} {Qr : AF → Hp → Lm → Prop} (hI : Inv nm F C k bs) (hk : k ≤ i) (ht : t ≤ 5 + 2 * i) (hdm : dm.length = 8) :
    TS c (n + 11) lawSc (hL c cs fd cl me d dx dt fl nm g F C bs t dm F0 F1 n0 n1 c0 c1 w0 w1) (mT fd me d fl k) lawRest (WkM (J2 c cs fd cl me d dx dt fl nm i)) Qr := by
  have ht0 : Told _ _ 0 (nm 0) (F 0).cl := hI.told0 (w := 0) (by decide)
  have ht1 : Told _ _ 1 (nm 1) (F 1).cl := hI.told0 (w := 1) (by decide)
  refine open_if (P := fun l => TS _ _ _ _ _ l _ _) (L := lawRest) (by with_unfolding_all exact rfl) ?_
  unfold hL mT
  repeat tb_rel
  refine c_law_lost ⟨by boot_fact, by boot_fact⟩ (by boot_fact) hI.da fun d' dx' g2 dt' => ?_
  repeat tb_rel
  refine c_law_is_sound ⟨by boot_fact, by boot_fact⟩ (by boot_fact) (by boot_fact) hI.da (by boot_fact) ⟨by boot_fact, by boot_fact, by boot_fact, by boot_fact⟩ ⟨by boot_fact, by boot_fact, by boot_fact, by boot_fact⟩ (hI.nml 0 (by decide)) (hI.nml 1 (by decide)) hI.full.ok hI.full.free ht0 ht1 ?_
  repeat tb_rel
  refine ⟨hL c cs fd cl me d dx dt fl nm g F C bs t dm F0 F1 n0 n1 c0 c1 w0 w1, mL fd me d fl k, ?_, has_mL rfl rfl rfl rfl rfl, ⟨g, F, C, k, bs, t, dm, F0, F1, n0, n1, c0, c1, w0, w1, hI, hk, ht, hdm, rfl, rfl⟩⟩
  unfold hL
  k_caught0
noncomputable def mW (fd me d fl : Addr) (k w : Nat) (b : Bool) : Lm := bindA [("which", .int (w : Nat)), ("is_closing", .bool b), ("feed", .ref fd), ("memory", .ref me), ("disk", .ref d), ("files", .ref fl), ("many", .int (k : Nat))] fun _ => none
theorem has_mW {fd me d fl : Addr} {k w : Nat} {b : Bool} {m : Lm} (a0 : m "which" = some (.int (w : Nat))) (a1 : m "is_closing" = some (.bool b)) (h1 : m "feed" = some (.ref fd)) (h2 : m "memory" = some (.ref me)) (h3 : m "disk" = some (.ref d)) (h4 : m "files" = some (.ref fl)) (h5 : m "many" = some (.int (k : Nat))) : Has (mW fd me d fl k w b) m := by
  refine has_of fun p hp => ?_
  rcases List.mem_cons.mp hp with rfl | hp
  · exact a0
  rcases List.mem_cons.mp hp with rfl | hp
  · exact a1
  rcases List.mem_cons.mp hp with rfl | hp
  · exact h1
  rcases List.mem_cons.mp hp with rfl | hp
  · exact h2
  rcases List.mem_cons.mp hp with rfl | hp
  · exact h3
  rcases List.mem_cons.mp hp with rfl | hp
  · exact h4
  rcases List.mem_cons.mp hp with rfl | hp
  · exact h5
  · cases hp
theorem open_2 {P : List Stmt → Prop} {L R : List Stmt} {a b : Stmt} (e : L = a :: b :: R) (h : P (a :: b :: R)) : P L := e ▸ h
/-- the turn, for either file -/
theorem law_turn {fd me d dx dt fl g Fw nw cw ww : Addr} {nm : Nat → List Int} {F : Nat → LF} {C : List Nat} {k w : Nat} {bs : List (List Int)} {dm : List Int} {fls : List AV} {ρ : Hp} {b : Bool} {pre : List Int} {post : List Int → List Int} {Qn : Hp → Lm → Prop} {Qr : AF → Hp → Lm → Prop}
    (hw : w < 2) (hI : Inv nm F C k bs) (hk5 : k < 5) (hdm : dm.length = 8) (hnm8 : ∃ v : Int, (nm w)[8]? = some v ∧ v < 128) (hfl : fls[w]? = some (.ref Fw)) (hfll : fls.length = 2) (hpl : 48 * ((w : Nat) : Int) = ((pre.length : Nat) : Int))
    (hat : ∀ dm : List Int, dm.length = 8 → FAt pre (post dm) ((F w).fcb (nm w))) (hdma : ∀ oc : List Int, oc.length = 8 → Dma pre (post oc) 104 oc)
    (hcut : ∀ oc : List Int, (aints (mm pre (post dm) ((F w).fcb (nm w)))).take 104 ++ aints oc ++ (aints (mm pre (post dm) ((F w).fcb (nm w)))).drop 112 = aints (mm pre (post oc) ((F w).fcb (nm w))))
    (hk : ∀ g' X C' k' bs' dm' nF cA wA, Inv nm (setF F w X) C' k' bs' → k' ≤ k + 1 → dm'.length = 8 → TS c (n + 11) lawSc ((dt, .list (aints (dat (pad (dirL nm (setF F w X) C')) bs'))) :: (me, .list (aints (mm pre (post dm') (X.fcb (nm w))))) :: (dx, .attrs (diskFs g' dt)) :: (g', .list (aints [])) :: (d, .inst c.cD dx) :: (fl, .list (fls.set w (.ref nF))) :: (nF, .list [.ref nw, .int (X.r : Nat), .ref cA, .ref wA]) :: (nw, .list (aints (nm w))) :: (cA, .list (aints (nats X.cl))) :: (wA, .list (aints (nats X.wt))) :: ρ) (mT fd me d fl k') lawRest Qn Qr) :
    TS c (n + 11) lawSc ((dt, .list (aints (dat (pad (dirL nm F C)) bs))) :: (me, .list (aints (mm pre (post dm) ((F w).fcb (nm w))))) :: (dx, .attrs (diskFs g dt)) :: (g, .list (aints [])) :: (d, .inst c.cD dx) :: (fl, .list fls) :: (Fw, .list [.ref nw, .int ((F w).r : Nat), .ref cw, .ref ww]) :: (nw, .list (aints (nm w))) :: (cw, .list (aints (nats (F w).cl))) :: (ww, .list (aints (nats (F w).wt))) :: ρ) (mW fd me d fl k w b) lawMid Qn Qr := by
  have hfl' : fls[Int.toNat ((w : Nat) : Int)]? = some (.ref Fw) := hfl
  have hz0 := (hI.f w hw).z
  have hn0 := (hI.f w hw).n
  refine open_2 (P := fun l => TS _ _ _ _ _ l _ _) (L := lawMid) (R := lawRest) (by with_unfolding_all exact rfl) ?_
  unfold mW
  repeat tb_rel
  refine i_list (by boot_fact) (by lia) (by lia) hfl' ?_
  repeat tb_rel
  cases b with
  | true =>
    repeat tb_rel
    obtain ⟨hcl1, hI', hsf⟩ := hI.close hw
    rw [hpl]
    refine TC.lessH (σ' := (dt, .list (aints (dat (pad (dirL nm F C)) bs))) :: (me, .list (aints (mm pre (post dm) ((F w).fcb (nm w))))) :: (dx, .attrs (diskFs g dt)) :: (g, .list (aints [])) :: (d, .inst c.cD dx) :: (fl, .list fls) :: (Fw, .list [.ref nw, .int ((F w).r : Nat), .ref cw, .ref ww]) :: (nw, .list (aints (nm w))) :: (cw, .list (aints (nats (F w).cl))) :: (ww, .list (aints (nats (F w).wt))) :: ρ) (by k_caught0) ?_
    refine c_close_file (pre := pre) (by boot_fact) hI.da (hat dm hdm) (by lia) hcl1 fun g' => ?_
    rw [hsf]
    repeat tb_rel
    refine b_addl (by boot_fact) (by boot_fact) (fun cA => ?_) (by simp [aints, nats, LF.cl, LF.wt]; lia)
    rw [shut_cl hz0]
    repeat tb_rel
    rename_i wA nF
    refine set_list (xs := fls) (by show Mine.Upd _ _ _ (.list (fls.set w (.ref nF))) _; top_raise0) (by lia) (by rw [hfll]; lia) (by rw [hfll]; decide) ?_
    refine s_nil ?_
    refine TS.lessH ?_ (TS.less (m' := mT fd me d fl k) (has_mT rfl rfl rfl rfl rfl rfl) (hk g' (F w).shut C k bs dm nF cA wA hI' (by lia) hdm))
    rw [← shut_wt (f := F w), show (F w).shut.r = (F w).r from rfl]
    k_caught0
  | false =>
    repeat tb_rel
    obtain ⟨s1, f1, slot, C', W⟩ := hI.wrote hw hk5
    have hI' := W.inv
    have hb0 := (hI.f w hw).b
    have hr100 : (F w).r < 100 := by unfold LF.r; lia
    have hr1 : ((F w).r : Int) + 1 = (((F w).put k).r : Nat) := by rw [LF.put_r]; lia
    have ho8 : (octs w (F w).r).length = 8 := rfl
    obtain ⟨v8, hv8, hv8l⟩ := hnm8
    refine x_ttn (fun env he => by cases env; cases he; rfl) ?_
    repeat tb_rel
    refine c_law_octets (w := w) (r := (F w).r) (by lia) (by lia) fun oA => ?_
    repeat tb_rel
    rename_i tq
    rw [show ((k : Nat) : Int) + 1 = ((k + 1 : Nat) : Int) from rfl]
    have hml : (mm pre (post dm) ((F w).fcb (nm w))).length = 128 := (hat dm hdm).len
    refine ⟨me, aints (mm pre (post dm) ((F w).fcb (nm w))), _, _, oA, _, _, rfl, rfl, rfl, rfl, by boot_fact, by simp [aints, hml, ho8], by top_raise0, by decide, by decide, by simp [aints, hml], by simp [aints, hml, ho8], ?_⟩
    rw [show (aints (mm pre (post dm) ((F w).fcb (nm w)))).take (Int.toNat 104) ++ aints (octs w (F w).r) ++ (aints (mm pre (post dm) ((F w).fcb (nm w)))).drop (Int.toNat 112) = aints (mm pre (post (octs w (F w).r)) ((F w).fcb (nm w))) from hcut _]
    repeat tb_rel
    rw [hpl]
    refine TC.lessH (σ' := (dt, .list (aints (dat (pad (dirL nm F C)) bs))) :: (me, .list (aints (mm pre (post (octs w (F w).r)) ((F w).fcb (nm w))))) :: (dx, .attrs (diskFs g dt)) :: (g, .list (aints [])) :: (d, .inst c.cD dx) :: (fl, .list fls) :: (Fw, .list [.ref nw, .int ((F w).r : Nat), .ref cw, .ref ww]) :: (nw, .list (aints (nm w))) :: (cw, .list (aints (nats (F w).cl))) :: (ww, .list (aints (nats (F w).wt))) :: ρ) (by k_caught0) ?_
    refine c_write_next (pre := pre) (dma := 104) (oc := octs w (F w).r) (slot := slot) (j := k) (by boot_fact) hI.da (hat _ ho8) (by lia) W.go W.cr W.lt W.blk (by lia) hv8 hv8l (hdma _ ho8) fun g' => ?_
    rw [W.fcb]
    repeat tb_rel
    rw [show Int.fmod ((F w).r : Int) 16 = (((F w).r % 16 : Nat) : Int) by rw [Int.fmod_eq_emod_of_nonneg _ (by decide)]; lia]
    by_cases hr16 : (F w).r % 16 = 0
    · rw [hr16]
      refine br_t rfl ?_
      repeat tb_rel
      refine x_tts (ns := ["closed", "waiting"]) (fun env he => by cases env; cases he; rfl) ?_ (by top_args)
      repeat tb_rel
      refine b_addl (by boot_fact) (by boot_fact) (fun cA => ?_) (by simp [aints, nats, LF.cl, LF.wt]; lia)
      rw [put_cl_t (k := k) hz0 hr16]
      repeat tb_rel
      rename_i eA tr
      refine ⟨tr, _, rfl, mem_hd, rfl, ?_⟩
      repeat tb_rel
      rename_i sA
      refine b_addl (by boot_fact) (by boot_fact) (fun wA => ?_) (by simp)
      rw [put_wt_t (k := k) hr16, hr1]
      repeat tb_rel
      rename_i nF
      refine set_list (xs := fls) (by show Mine.Upd _ _ _ (.list (fls.set w (.ref nF))) _; top_raise0) (by lia) (by rw [hfll]; lia) (by rw [hfll]; decide) ?_
      refine s_nil ?_
      refine TS.lessH ?_ (TS.less (m' := mT fd me d fl (k + 1)) (has_mT rfl rfl rfl rfl rfl rfl) (hk g' ((F w).put k) C' (k + 1) (bs.set k (octs w (F w).r)) (octs w (F w).r) nF cA wA hI' (Nat.le_refl _) ho8))
      k_caught0
    · refine br_f (by simp; lia) ?_
      repeat tb_rel
      rename_i sA
      refine b_addl (by boot_fact) (by boot_fact) (fun wA => ?_) (by simp [aints, nats, LF.cl, LF.wt]; lia)
      rw [put_wt_f (k := k) hz0 hr16, put_cl_f (f := F w) (k := k) hr16, hr1]
      repeat tb_rel
      rename_i nF
      refine set_list (xs := fls) (by show Mine.Upd _ _ _ (.list (fls.set w (.ref nF))) _; top_raise0) (by lia) (by rw [hfll]; lia) (by rw [hfll]; decide) ?_
      refine s_nil ?_
      refine TS.lessH ?_ (TS.less (m' := mT fd me d fl (k + 1)) (has_mT rfl rfl rfl rfl rfl rfl) (hk g' ((F w).put k) C' (k + 1) (bs.set k (octs w (F w).r)) (octs w (F w).r) nF cw wA hI' (Nat.le_refl _) ho8))
      k_caught0
theorem c_law {l : Addr} {cs : List Int} {items : Array Value} (hl : cs.length ≤ 63) (hLs : c.base.IsList l items) (hI : VsRel c (aints cs) items.toList) : TC c (n + 12) (.glob "law") [.raw (.ref l)] [] fun v _ => v = .bool true := by
  refine t_fn ["script"] (f' := "law") rfl (fun pm code doc vs hv => by obtain ⟨a0, rfl⟩ := len1 hv; rfl) rfl rfl fun hn => ?_
  refine s_cons (x_tts (ns := ["feed", "memory"]) (fun env he => by cases env; cases he; rfl) ?_ (by top_args))
  repeat tb_rel
  refine t_uptoB ?_
  repeat tb_rel
  refine ⟨l, aints cs, 16, items, rfl, rfl, hLs, hI, by decide, by simp [aints]; lia, fun cl => ?_⟩
  repeat tb_rel
  rename_i fd z1 me t1
  refine ⟨t1, _, rfl, mem_hd, rfl, ?_⟩
  repeat tb_rel
  refine x_tts (ns := ["disk", "files", "many"]) (fun env he => by cases env; cases he; rfl) ?_ (by top_args)
  repeat tb_rel
  refine c_Disk fun d dx g dt => ?_
  repeat tb_rel
  rename_i fl t2
  refine ⟨t2, _, rfl, mem_hd, rfl, ?_⟩
  have hcs' : (aints cs).take (Int.toNat 16) = aints (cs.take 16) := by simp [aints, List.map_take]
  have hm0 : (List.replicate (Int.toNat 128) [AV.int 0]).flatten = aints (zeros 128) := by simp [aints, zeros]
  rw [hcs', hm0]
  have hcl : (cs.take 16).length ≤ 1000 := by simp; lia
  generalize cs.take 16 = cs' at *
  repeat tb_rel
  refine x_for (it_tup ?_)
  repeat tb_rel
  rename_i t3
  refine ⟨t3, _, _, rfl, .head, J1 c cs' fd cl me d dx g dt fl, wk (σ' := [(fl, .list []), (dt, .list (aints (dat ss0 bs0))), (me, .list (aints (zeros 128))), (dx, .attrs (diskFs g dt)), (g, .list (aints [])), (d, .inst c.cD dx), (fd, .list [.ref cl, .int ((0 : Nat) : Int)]), (cl, .list (aints cs'))]) ?_ rfl, ?_, ?_⟩
  · show Less ((fl, _) :: (dt, _) :: (me, _) :: (dx, _) :: (g, _) :: (d, _) :: (fd, .list [.ref cl, .int 0]) :: _) _
    k_caught0
  · rintro i iv ρ hi hJ
    obtain ⟨a, ha, rfl⟩ := map_get hi
    match i, ha with
    | 0, ha =>
      cases ha
      obtain rfl : ρ = _ := hJ
      repeat tb_rel
      refine x_tts (ns := ["name", "begin"]) (fun env he => by cases env; cases he; rfl) ?_ (by top_args)
      repeat tb_rel
      refine c_law_next (k := 2) (t := 0) (cs := cs') (by boot_fact) hcl (by decide) (by decide) (by top_raise0) fun v hv => ?_
      repeat tb_rel
      rename_i n1 n2 n3
      refine b_addl (by boot_fact) (by boot_fact) (fun nA => ?_) (by simp)
      rw [show [AV.int (65 + (v : Int))] ++ (List.replicate (Int.toNat 10) [AV.int 32]).flatten = aints (nameN v) from rfl]
      repeat tb_rel
      rename_i bl
      refine c_law_next (k := 3) (t := 0 + 1) (cs := cs') (by boot_fact) hcl (by decide) (by decide) (by top_raise0) fun v2 hv2 => ?_
      obtain ⟨b, hb, hbv⟩ := beg_pick hv2
      refine i_list mem_hd (by lia) (by lia) hbv ?_
      repeat tb_rel
      rename_i tp
      refine ⟨tp, _, rfl, mem_hd, rfl, ?_⟩
      repeat tb_rel
      refine c_new_fcb (nm := nameN v) (by boot_fact) rfl fun fb => ?_
      rw [show (Fcb.mk (nameN v) 0 true 0 (zeros 16) 0) = fcbNew v from rfl]
      refine a_cutN ?_
      repeat tb_rel
      refine ⟨me, aints (zeros 128), _, _, fb, _, _, rfl, rfl, rfl, rfl, mem_hd, by simp [aints, zeros, fcbNew_ok.get.len], by top_raise0, by decide, by decide, by decide, by simp [aints, zeros, fcbNew_ok.get.len], ?_⟩
      rw [show (aints (zeros 128)).take (Int.toNat (48 * 0)) ++ aints (fcbNew v).oct ++ (aints (zeros 128)).drop (Int.toNat (48 * 0 + 36)) = aints (mm [] (zeros 92) (fcbNew v)) from mem_new0]
      repeat tb_rel
      have hA0 : FAt [] (zeros 92) (fcbNew v) := ⟨fcbNew_ok, rfl⟩
      have hA1 : FAt [] (zeros 92) ⟨nameN v, 0, false, 0, zeros 16, 0⟩ := ⟨⟨rfl, rfl, by show (0 : Int) ≤ 0 ∧ (0 : Int) < 32; decide, byte0, byte0, zeros_byte⟩, hA0.total⟩
      refine TC.lessH (σ' := (dt, .list (aints (dat ss0 bs0))) :: (me, .list (aints (mm [] (zeros 92) (fcbNew v)))) :: (dx, .attrs (diskFs g dt)) :: (g, .list (aints [])) :: [(d, .inst c.cD dx), (fl, .list []), (nA, .list (aints (nameN v))), (fd, .list [.ref cl, .int ((0 + 1 + 1 : Nat) : Int)]), (cl, .list (aints cs'))]) (by k_caught0) ?_
      refine c_make_file (u := 0) (k := 0) (pre := []) (by boot_fact) da0 hA0 (by decide) rfl ?_
      rw [show ((ss0 : List (Option En)).set 0 (some ⟨0, (fcbNew v).nm, (fcbNew v).ex, 0, zeros 16⟩)) = [some ⟨0, nameN v, 0, 0, zeros 16⟩, none, none, none] from rfl, show (Fcb.mk (fcbNew v).nm (fcbNew v).ex false 0 (zeros 16) (fcbNew v).cr) = ⟨nameN v, 0, false, 0, zeros 16, 0⟩ from rfl]
      repeat tb_rel
      refine c_set_current (pre := []) (v := (b : Nat)) hA1 ⟨by lia, by lia⟩ (by top_raise0) ?_
      rw [show (Fcb.mk (nameN v) 0 false 0 (zeros 16) ((b : Nat) : Int)) = fcbMade v b from rfl]
      repeat tb_rel
      refine t_append (t_name rfl ⟨fl, rfl, ⟨_, by boot_fact⟩, ?_⟩) (by top_args) (by top_args) (by top_args)
      repeat tb_rel
      rename_i fC fW fF
      refine ⟨[], _, by top_raise0, by simp, ?_⟩
      repeat tb_rel
      refine en (σ' := (fF, .list [.ref nA, .int (b : Nat), .ref fC, .ref fW]) :: (nA, .list (aints (nameN v))) :: (fC, .list []) :: (fW, .list []) :: (fl, .list [.ref fF]) :: (dt, .list (aints (dat [some ⟨0, nameN v, 0, 0, zeros 16⟩, none, none, none] bs0))) :: (me, .list (aints (mm [] (zeros 92) (fcbMade v b)))) :: (dx, .attrs (diskFs g dt)) :: (g, .list (aints [])) :: (d, .inst c.cD dx) :: (fd, .list [.ref cl, .int ((0 + 1 + 1 : Nat) : Int)]) :: (cl, .list (aints cs')) :: []) ?_ (((Has.refl.put rfl).put rfl).put rfl) ⟨v, b, fF, nA, fC, fW, hb, rfl⟩
      dsimp only [List.cons_append, List.nil_append]
      k_caught0
    | 1, ha =>
      cases ha
      obtain ⟨v0, b0, F0, n0, c0, w0, hb0, rfl⟩ := hJ
      have hml : (mm [] (zeros 92) (fcbMade v0 b0)).length = 128 := (FAt.mk (fcbMade_ok hb0) rfl).len
      have hda : Da [some ⟨0, nameN v0, 0, 0, zeros 16⟩, none, none, none] bs0 := da0.put (k := 0) (e := ⟨0, nameN v0, 0, 0, zeros 16⟩) ⟨rfl, rfl, by show (0 : Int) ≠ 229; decide, by show (0 : Int) ≤ 0 ∧ (0 : Int) < 32; decide⟩
      repeat tb_rel
      refine x_tts (ns := ["name", "begin"]) (fun env he => by cases env; cases he; rfl) ?_ (by top_args)
      repeat tb_rel
      refine c_law_next (k := 2) (t := 2) (cs := cs') (by boot_fact) hcl (by decide) (by decide) (by top_raise0) fun v hv => ?_
      repeat tb_rel
      rename_i n1 n2 n3
      refine b_addl (by boot_fact) (by boot_fact) (fun nA => ?_) (by simp)
      rw [show [AV.int (65 + (v : Int))] ++ (List.replicate (Int.toNat 10) [AV.int 32]).flatten = aints (nameN v) from rfl]
      repeat tb_rel
      rename_i bl
      refine c_law_next (k := 3) (t := 2 + 1) (cs := cs') (by boot_fact) hcl (by decide) (by decide) (by top_raise0) fun v2 hv2 => ?_
      obtain ⟨b, hb, hbv⟩ := beg_pick hv2
      refine i_list mem_hd (by lia) (by lia) hbv ?_
      repeat tb_rel
      rename_i tp
      refine ⟨tp, _, rfl, mem_hd, rfl, ?_⟩
      repeat tb_rel
      refine c_new_fcb (nm := nameN v) (by boot_fact) rfl fun fb => ?_
      rw [show (Fcb.mk (nameN v) 0 true 0 (zeros 16) 0) = fcbNew v from rfl]
      refine a_cutN ?_
      repeat tb_rel
      refine ⟨me, aints (mm [] (zeros 92) (fcbMade v0 b0)), _, _, fb, _, _, rfl, rfl, rfl, rfl, mem_hd, by simp [aints, hml, fcbNew_ok.get.len], by top_raise0, by decide, by decide, by simp [aints, hml], by simp [aints, hml, fcbNew_ok.get.len], ?_⟩
      rw [show (aints (mm [] (zeros 92) (fcbMade v0 b0))).take (Int.toNat (48 * 1)) ++ aints (fcbNew v).oct ++ (aints (mm [] (zeros 92) (fcbMade v0 b0))).drop (Int.toNat (48 * 1 + 36)) = aints (mm (pre1 (fcbMade v0 b0)) (zeros 44) (fcbNew v)) from mem_new1 (fcbMade_ok hb0)]
      repeat tb_rel
      have hA0 : FAt (pre1 (fcbMade v0 b0)) (zeros 44) (fcbNew v) := ⟨fcbNew_ok, by rw [pre1_len (fcbMade_ok hb0)]; rfl⟩
      have hA1 : FAt (pre1 (fcbMade v0 b0)) (zeros 44) ⟨nameN v, 0, false, 0, zeros 16, 0⟩ := ⟨⟨rfl, rfl, by show (0 : Int) ≤ 0 ∧ (0 : Int) < 32; decide, byte0, byte0, zeros_byte⟩, hA0.total⟩
      rw [show (48 * 1 : Int) = (((pre1 (fcbMade v0 b0)).length : Nat) : Int) by rw [pre1_len (fcbMade_ok hb0)]; rfl]
      refine TC.lessH (σ' := (dt, .list (aints (dat [some ⟨0, nameN v0, 0, 0, zeros 16⟩, none, none, none] bs0))) :: (me, .list (aints (mm (pre1 (fcbMade v0 b0)) (zeros 44) (fcbNew v)))) :: (dx, .attrs (diskFs g dt)) :: (g, .list (aints [])) :: [(d, .inst c.cD dx), (fl, .list [.ref F0]), (F0, .list [.ref n0, .int (b0 : Nat), .ref c0, .ref w0]), (n0, .list (aints (nameN v0))), (c0, .list (aints (nats []))), (w0, .list (aints (nats []))), (nA, .list (aints (nameN v))), (fd, .list [.ref cl, .int ((2 + 1 + 1 : Nat) : Int)]), (cl, .list (aints cs'))]) (by k_caught0) ?_
      refine c_make_file (u := 1) (k := 1) (pre := (pre1 (fcbMade v0 b0))) (by boot_fact) hda hA0 (by decide) rfl ?_
      rw [show (([some ⟨0, nameN v0, 0, 0, zeros 16⟩, none, none, none] : List (Option En)).set 1 (some ⟨1, (fcbNew v).nm, (fcbNew v).ex, 0, zeros 16⟩)) = [some ⟨0, nameN v0, 0, 0, zeros 16⟩, some ⟨1, nameN v, 0, 0, zeros 16⟩, none, none] from rfl, show (Fcb.mk (fcbNew v).nm (fcbNew v).ex false 0 (zeros 16) (fcbNew v).cr) = ⟨nameN v, 0, false, 0, zeros 16, 0⟩ from rfl]
      repeat tb_rel
      rw [show (48 * 1 : Int) = (((pre1 (fcbMade v0 b0)).length : Nat) : Int) by rw [pre1_len (fcbMade_ok hb0)]; rfl]
      refine c_set_current (pre := (pre1 (fcbMade v0 b0))) (v := (b : Nat)) hA1 ⟨by lia, by lia⟩ (by top_raise0) ?_
      rw [show (Fcb.mk (nameN v) 0 false 0 (zeros 16) ((b : Nat) : Int)) = fcbMade v b from rfl]
      repeat tb_rel
      refine t_append (t_name rfl ⟨fl, rfl, ⟨_, by boot_fact⟩, ?_⟩) (by top_args) (by top_args) (by top_args)
      repeat tb_rel
      rename_i fC fW fF
      refine ⟨[.ref F0], _, by top_raise0, by simp, ?_⟩
      repeat tb_rel
      refine en (σ' := (fF, .list [.ref nA, .int (b : Nat), .ref fC, .ref fW]) :: (nA, .list (aints (nameN v))) :: (fC, .list []) :: (fW, .list []) :: (F0, .list [.ref n0, .int (b0 : Nat), .ref c0, .ref w0]) :: (n0, .list (aints (nameN v0))) :: (c0, .list (aints (nats []))) :: (w0, .list (aints (nats []))) :: (fl, .list [.ref F0, .ref fF]) :: (dt, .list (aints (dat [some ⟨0, nameN v0, 0, 0, zeros 16⟩, some ⟨1, nameN v, 0, 0, zeros 16⟩, none, none] bs0))) :: (me, .list (aints (mm (pre1 (fcbMade v0 b0)) (zeros 44) (fcbMade v b)))) :: (dx, .attrs (diskFs g dt)) :: (g, .list (aints [])) :: (d, .inst c.cD dx) :: (fd, .list [.ref cl, .int ((2 + 1 + 1 : Nat) : Int)]) :: (cl, .list (aints cs')) :: []) ?_ (((Has.refl.put rfl).put rfl).put rfl) ⟨v0, b0, F0, n0, c0, w0, v, b, fF, nA, fC, fW, hb0, hb, rfl⟩
      dsimp only [List.cons_append, List.nil_append]
      k_caught0
    | i + 2, ha => cases ha
  · rintro ρ hJ
    obtain ⟨v0, b0, F0, n0, c0, w0, v1, b1, F1, n1, c1, w1, hb0, hb1, rfl⟩ : J1 c cs' fd cl me d dx g dt fl 2 ρ := hJ
    refine wk (.right [_] .refl) ?_
    have hdat : dat [some ⟨0, nameN v0, 0, 0, zeros 16⟩, some ⟨1, nameN v1, 0, 0, zeros 16⟩, none, none] bs0 = dat (pad (dirL (two (nameN v0) (nameN v1)) (beg (two b0 b1)) [])) bs0 := by rw [beg_dir]; rfl
    have hf0 : fcbMade v0 b0 = (beg (two b0 b1) 0).fcb (two (nameN v0) (nameN v1) 0) := (beg_fcb (w := 0) (b := two b0 b1) hb0).symm
    have hf1 : fcbMade v1 b1 = (beg (two b0 b1) 1).fcb (two (nameN v0) (nameN v1) 1) := (beg_fcb (w := 1) (b := two b0 b1) hb1).symm
    rw [hdat, mem_full, hf0, hf1]
    have hinv : Inv (two (nameN v0) (nameN v1)) (beg (two b0 b1)) [] 0 bs0 := beg_inv (fun w hw => by unfold two; split <;> rfl) (fun w hw => by unfold two; split <;> assumption)
    have hnm8 : ∀ w, ∃ v, (two (nameN v0) (nameN v1) w)[8]? = some v ∧ v < 128 := fun w => ⟨32, by unfold two; split <;> rfl, by decide⟩
    have hJ0 : ∀ t, t ≤ 5 → J2 c cs' fd cl me d dx dt fl (two (nameN v0) (nameN v1)) 0 (hL c cs' fd cl me d dx dt fl (two (nameN v0) (nameN v1)) g (beg (two b0 b1)) [] bs0 t (zeros 8) F0 F1 n0 n1 c0 c1 w0 w1) (mL fd me d fl 0) := fun t ht => ⟨g, _, [], 0, bs0, t, zeros 8, F0, F1, n0, n1, c0, c1, w0, w1, hinv, Nat.le_refl _, ht, rfl, rfl, rfl⟩
    repeat tb_rel
    refine s_forM (TIt.range ?_ (by top_args) (by top_args)) (fun σ m m' hm h => TS.less hm h)
    repeat tb_rel
    refine c_law_next (k := 5) (t := 4) (cs := cs') (by boot_fact) hcl (by decide) (by decide) (by top_raise0) fun vN hvN => ?_
    repeat tb_rel
    refine ⟨1 + vN, congrArg AV.int (by lia), by lia, J2 c cs' fd cl me d dx dt fl (two (nameN v0) (nameN v1)), ⟨_, _, ?_, ?_, hJ0 (4 + 1) (by decide)⟩, ?_, ?_⟩
    · unfold hL
      kts_caught
    · exact has_mL rfl rfl rfl rfl rfl
    · rintro i iv ρ mi hi ⟨g, F, C, k, bs, t, dm, F0, F1, n0, n1, c0, c1, w0, w1, hI, hk, ht, hdm, rfl, rfl⟩
      obtain ⟨hi5, rfl⟩ := upto_get hi
      have hk5 : k < 5 := by lia
      have ht100 : t < 100 := by lia
      generalize hnm : two (nameN v0) (nameN v1) = nm at *
      unfold hL
      repeat tb_rel
      refine x_tts (ns := ["which", "is_closing"]) (fun env he => by cases env; cases he; rfl) ?_ (by top_args)
      repeat tb_rel
      refine c_law_next (k := 2) (t := t) (cs := cs') (by boot_fact) hcl (by lia) (by decide) (by top_raise0) fun w hw => ?_
      repeat tb_rel
      refine c_law_next (k := 4) (t := t + 1) (cs := cs') (by boot_fact) hcl (by lia) (by decide) (by top_raise0) fun v2 hv2 => ?_
      repeat tb_rel
      rename_i tp
      refine ⟨tp, _, rfl, mem_hd, rfl, ?_⟩
      have hw2 : w = 0 ∨ w = 1 := by lia
      rcases hw2 with rfl | rfl
      · refine TS.lessH (σ' := (dt, .list (aints (dat (pad (dirL nm F C)) bs))) :: (me, .list (aints (mm [] (post0 ((F 1).fcb (nm 1)) dm) ((F 0).fcb (nm 0))))) :: (dx, .attrs (diskFs g dt)) :: (g, .list (aints [])) :: (d, .inst c.cD dx) :: (fl, .list [.ref F0, .ref F1]) :: (F0, .list [.ref n0, .int ((F 0).r : Nat), .ref c0, .ref w0]) :: (n0, .list (aints (nm 0))) :: (c0, .list (aints (nats (F 0).cl))) :: (w0, .list (aints (nats (F 0).wt))) :: (F1, .list [.ref n1, .int ((F 1).r : Nat), .ref c1, .ref w1]) :: (n1, .list (aints (nm 1))) :: (c1, .list (aints (nats (F 1).cl))) :: (w1, .list (aints (nats (F 1).wt))) :: (fd, .list [.ref cl, .int ((t + 1 + 1 : Nat) : Int)]) :: (cl, .list (aints cs')) :: []) (by rw [← mem2_0]; k_caught0)
          (TS.less (m' := mW fd me d fl k 0 ((v2 : Int) == 0)) (has_mW rfl rfl rfl rfl rfl rfl rfl) (law_turn (w := 0) (pre := []) (post := fun dm => post0 ((F 1).fcb (nm 1)) dm) (fls := [.ref F0, .ref F1]) (by decide) hI hk5 hdm (hnm8 0) rfl rfl rfl (fun dm h => at_0 hI.fcb0 hI.fcb1 h) (fun oc h => dma_0 hI.fcb1 h) (fun oc => by rw [← mem2_0, ← mem2_0]; exact mem2_dma hI.fcb0 hI.fcb1 hdm) fun g' X C' k' bs' dm' nF cA wA hI' hk' hdm' => ?_))
        refine TS.lessH (σ' := hL c cs' fd cl me d dx dt fl nm g' (setF F 0 X) C' bs' (t + 1 + 1) dm' nF F1 n0 n1 cA c1 wA w1) ?_ (law_tail hI' (by lia) (by lia) hdm')
        show Less ((dt, .list (aints (dat (pad (dirL nm (setF F 0 X) C')) bs'))) :: (me, .list (aints (mem2 (X.fcb (nm 0)) ((F 1).fcb (nm 1)) dm'))) :: (dx, .attrs (diskFs g' dt)) :: (g', .list (aints [])) :: (d, .inst c.cD dx) :: (fl, .list [.ref nF, .ref F1]) :: (nF, .list [.ref n0, .int (X.r : Nat), .ref cA, .ref wA]) :: (n0, .list (aints (nm 0))) :: (cA, .list (aints (nats X.cl))) :: (wA, .list (aints (nats X.wt))) :: (F1, .list [.ref n1, .int ((F 1).r : Nat), .ref c1, .ref w1]) :: (n1, .list (aints (nm 1))) :: (c1, .list (aints (nats (F 1).cl))) :: (w1, .list (aints (nats (F 1).wt))) :: (fd, .list [.ref cl, .int ((t + 1 + 1 : Nat) : Int)]) :: (cl, .list (aints cs')) :: []) ((dt, _) :: (me, _) :: (dx, _) :: (g', _) :: (d, _) :: (fl, .list [.ref nF, .ref F1]) :: _)
        rw [mem2_0]
        k_caught0
      · refine TS.lessH (σ' := (dt, .list (aints (dat (pad (dirL nm F C)) bs))) :: (me, .list (aints (mm (pre1 ((F 0).fcb (nm 0))) (post1 dm) ((F 1).fcb (nm 1))))) :: (dx, .attrs (diskFs g dt)) :: (g, .list (aints [])) :: (d, .inst c.cD dx) :: (fl, .list [.ref F0, .ref F1]) :: (F1, .list [.ref n1, .int ((F 1).r : Nat), .ref c1, .ref w1]) :: (n1, .list (aints (nm 1))) :: (c1, .list (aints (nats (F 1).cl))) :: (w1, .list (aints (nats (F 1).wt))) :: (F0, .list [.ref n0, .int ((F 0).r : Nat), .ref c0, .ref w0]) :: (n0, .list (aints (nm 0))) :: (c0, .list (aints (nats (F 0).cl))) :: (w0, .list (aints (nats (F 0).wt))) :: (fd, .list [.ref cl, .int ((t + 1 + 1 : Nat) : Int)]) :: (cl, .list (aints cs')) :: []) (by rw [← mem2_1]; k_caught0)
          (TS.less (m' := mW fd me d fl k 1 ((v2 : Int) == 0)) (has_mW rfl rfl rfl rfl rfl rfl rfl) (law_turn (w := 1) (pre := pre1 ((F 0).fcb (nm 0))) (post := fun dm => post1 dm) (fls := [.ref F0, .ref F1]) (by decide) hI hk5 hdm (hnm8 1) rfl rfl (by rw [pre1_len hI.fcb0]; rfl) (fun dm h => at_1 hI.fcb0 hI.fcb1 h) (fun oc h => dma_1 hI.fcb0 h) (fun oc => by rw [← mem2_1, ← mem2_1]; exact mem2_dma hI.fcb0 hI.fcb1 hdm) fun g' X C' k' bs' dm' nF cA wA hI' hk' hdm' => ?_))
        refine TS.lessH (σ' := hL c cs' fd cl me d dx dt fl nm g' (setF F 1 X) C' bs' (t + 1 + 1) dm' F0 nF n0 n1 c0 cA w0 wA) ?_ (law_tail hI' (by lia) (by lia) hdm')
        show Less ((dt, .list (aints (dat (pad (dirL nm (setF F 1 X) C')) bs'))) :: (me, .list (aints (mem2 ((F 0).fcb (nm 0)) (X.fcb (nm 1)) dm'))) :: (dx, .attrs (diskFs g' dt)) :: (g', .list (aints [])) :: (d, .inst c.cD dx) :: (fl, .list [.ref F0, .ref nF]) :: (F0, .list [.ref n0, .int ((F 0).r : Nat), .ref c0, .ref w0]) :: (n0, .list (aints (nm 0))) :: (c0, .list (aints (nats (F 0).cl))) :: (w0, .list (aints (nats (F 0).wt))) :: (nF, .list [.ref n1, .int (X.r : Nat), .ref cA, .ref wA]) :: (n1, .list (aints (nm 1))) :: (cA, .list (aints (nats X.cl))) :: (wA, .list (aints (nats X.wt))) :: (fd, .list [.ref cl, .int ((t + 1 + 1 : Nat) : Int)]) :: (cl, .list (aints cs')) :: []) ((dt, _) :: (me, _) :: (dx, _) :: (g', _) :: (d, _) :: (fl, .list [.ref F0, .ref nF]) :: _)
        rw [mem2_1]
        k_caught0
    · rintro ρ mi ⟨g, F, C, k, bs, t, dm, F0, F1, n0, n1, c0, c1, w0, w1, hI, hk, ht, hdm, rfl, rfl⟩
      rw [upto_len] at hk ht
      have hk5 : k ≤ 5 := by lia
      refine ⟨_, _, .refl, Has.refl, ?_⟩
      unfold hL
      dsimp only [List.cons_append, List.nil_append]
      repeat tb_rel
      refine c_law_lost ⟨by boot_fact, by boot_fact⟩ (by boot_fact) hI.da fun d' dx' g2 dt' => ?_
      repeat tb_rel
      by_cases hC : C.length < 2
      · have L := hI.last hk5 hC
        refine c_free_entry ⟨by boot_fact, by boot_fact⟩ mem_hd hI.da (fun e0 => by rw [L.free] at e0; cases e0) fun k' hk' hlt => ?_
        repeat tb_rel
        refine b_addl (by boot_fact) (by boot_fact) (fun nC => ?_) (by simp)
        rw [show [AV.int 67] ++ (List.replicate (Int.toNat 10) [AV.int 32]).flatten = aints nameC from rfl]
        repeat tb_rel
        refine c_make (user := 2) (raw := nameC) ⟨by boot_fact, by boot_fact⟩ mem_hd hI.da entC_ok L.free (by top_raise0) ?_
        rw [show (⟨2, nameC, 0, 0, zeros 16⟩ : En) = entC from rfl]
        repeat tb_rel
        refine b_addl (by boot_fact) (by boot_fact) (fun nC2 => ?_) (by simp)
        rw [show [AV.int 67] ++ (List.replicate (Int.toNat 10) [AV.int 32]).flatten = aints nameC from rfl]
        repeat tb_rel
        rename_i ni1 ni2
        rw [show (List.replicate (Int.toNat 8) [AV.int 9]).flatten = aints nine from rfl]
        refine c_write_at (pat := nameC) (oc := nine) (r := 3) (j := k) (e := entC) (g := g2) ⟨by boot_fact, by boot_fact⟩ (by boot_fact) L.da1 (by boot_fact) rfl (by boot_fact) rfl (by decide) (by decide) L.all L.find rfl (by lia) (by rw [L.last]; decide) (by rw [L.last]; exact L.near) (by top_raise0) ?_
        rw [show entC.wrote 3 (16 + k) = entC' k from rfl]
        repeat tb_rel
        rw [show ((k : Nat) : Int) + 1 = ((k + 1 : Nat) : Int) from rfl]
        refine c_law_is_sound ⟨by boot_fact, by boot_fact⟩ (by boot_fact) (by boot_fact) L.da2 (by boot_fact) ⟨by boot_fact, by boot_fact, by boot_fact, by boot_fact⟩ ⟨by boot_fact, by boot_fact, by boot_fact, by boot_fact⟩ (hI.nml 0 (by decide)) (hI.nml 1 (by decide)) L.ok L.many (L.told 0 (by decide)) (L.told 1 (by decide)) ?_
        repeat tb_rel
        refine b_addl (by boot_fact) (by boot_fact) (fun nC3 => ?_) (by simp)
        rw [show [AV.int 67] ++ (List.replicate (Int.toNat 10) [AV.int 32]).flatten = aints nameC from rfl]
        repeat tb_rel
        refine c_read_at (pat := nameC) (r := 3) ⟨by boot_fact, by boot_fact⟩ (by boot_fact) L.da2 mem_hd rfl (by decide) L.ok (fun e0 => by rw [L.read] at e0; cases e0) fun xs hxs R => ?_
        rw [L.read] at hxs
        cases hxs
        repeat tb_rel
        refine cm_nel (xs := nine) (ys := nine) (mem_tl (mem_tl mem_hd)) mem_hd ?_
        repeat tb_rel
        exact rr .refl rfl
      · refine c_free_entry ⟨by boot_fact, by boot_fact⟩ mem_hd hI.da (fun _ => ?_) fun k' hk' hlt => by rw [hI.nofree hC] at hk'; cases hk'
        repeat tb_rel
        exact rr .refl rfl
end
theorem last_live (h : Heap) : ∀ (d : Nat) (a : Addr), (h.get? a).isSome = true → h.objs.size - a ≤ d → ∃ b : Nat, (h.get? b).isSome = true ∧ ∀ b' : Nat, b < b' → h.get? b' = none := by
  intro d
  induction d with
  | zero =>
    intro a ha hd
    obtain ⟨o, e⟩ := Option.isSome_iff_exists.mp ha
    have : @LT.lt Nat _ a h.objs.size := Heap.lt_size e
    exact absurd this (Nat.not_lt.mpr (Nat.le_of_sub_eq_zero (Nat.le_zero.mp hd)))
  | succ d ih =>
    intro a ha hd
    by_cases q : ∃ b' : Nat, @LT.lt Nat _ a b' ∧ (h.get? b').isSome = true
    · obtain ⟨b', h1, h2⟩ := q
      refine ih b' h2 ?_
      have h1' : @LT.lt Nat _ a b' := h1
      have : h.objs.size - b' ≤ h.objs.size - (a + 1) := Nat.sub_le_sub_left h1' _
      exact Nat.le_trans this (by rw [Nat.sub_add_eq]; exact Nat.sub_le_of_le_add hd)
    · refine ⟨a, ha, fun b' hb => ?_⟩
      cases e : h.get? b' with
      | none => rfl
      | some o => exact absurd ⟨b', hb, by rw [e]; rfl⟩ q
theorem shrink (h : Heap) {a : Addr} {o : Obj} (ha : h.get? a = some o) : ∃ h' : Heap, (∀ b, h'.get? b = h.get? b) ∧ ∃ b o, h.get? b = some o ∧ h'.objs.size ≤ b + 1 := by
  obtain ⟨b, hb, hmax⟩ := last_live h _ a (by rw [ha]; rfl) (Nat.le_refl _)
  obtain ⟨ob, hob⟩ := Option.isSome_iff_exists.mp hb
  have hlt : @LT.lt Nat _ b h.objs.size := Heap.lt_size hob
  refine ⟨⟨h.objs.extract 0 (b + 1), h.life⟩, fun b' => ?_, b, ob, hob, by simp; exact Nat.min_le_left _ _⟩
  by_cases q : @LT.lt Nat _ b' (b + 1)
  · have : (h.objs.extract 0 (b + 1))[b']? = h.objs[b']? := by
      rw [Array.getElem?_extract]
      rw [if_pos (by rw [Nat.min_eq_left hlt]; simpa using q)]
      simp
    unfold Heap.get?
    dsimp only
    rw [this]
  · rw [hmax b' (Nat.lt_of_succ_le (Nat.le_of_not_lt q))]
    have : (h.objs.extract 0 (b + 1))[b']? = none := by
      rw [Array.getElem?_eq_none]
      simp
      exact Nat.le_trans (Nat.min_le_left _ _) (Nat.le_of_not_lt q)
    unfold Heap.get?
    dsimp only
    rw [this]
theorem ints_rel {c : Cx} : ∀ {vs : List Value} {ns : List Int}, IntsAre vs ns → VsRel c (aints ns) vs := by
  intro vs ns h
  induction h with
  | nil => trivial
  | cons _ t _ ih => exact ⟨⟨t, rfl⟩, ih⟩
/-- the run of the law -/
theorem law_run {p : Program} {w : World} {mg mb : Str → Option Value} {s₁ : Shared} {K : Frag} {cD cE : Addr}
    (g : s₁.heap.Ns mainGlobals mg) (b : s₁.heap.Ns builtinsNs mb) (nolimit : s₁.heap.NoLimit)
    (fn : ∀ n d, defOf n = some d → ∃ a o pm code doc, mg n = some (.ref a) ∧ s₁.heap.get? a = some o ∧ o.data = .func (docDef n d.params d.body d.scope pm code doc) ∧ s₁.heap.CodeRec code n)
    (const : ∀ n i, consts.lookup n = some i → ∃ t, mg n = some (.int i t))
    (bi : ∀ n v, builtinsUsed.lookup n = some v → mg n = none ∧ mb n = some v)
    (kin : K.In s₁.heap) (nD : mg "Disk" = some (.ref cD)) (nE : mg "Entry" = some (.ref cE))
    (cls : ∀ C, C = cD ∨ C = cE → makesIn K C = true ∧ keepIn K (.ref C) = true ∧ hasDictIn K C = true ∧ plainOver K C = true ∧ findIn K (.ref C) "__setattr__" = some (some (.builtin "object.__setattr__")))
    (att : ∀ C, C = cD ∨ C = cE → ∀ x, attrNames.contains x = true → plainGet K C x = true ∧ findIn K (.ref C) x = some none ∧ takerIn K C x = some none)
    (initD : ∀ d, initOf "Disk" = some d → InitOk s₁.heap K cD "Disk.__init__" d)
    (initE : ∀ d, initOf "Entry" = some d → InitOk s₁.heap K cE "Entry.__init__" d)
    (hg : s₁.gens = #[]) {fa l : Addr} {items : Array Value} {xs : List Int} (hfa : mg "law" = some (.ref fa)) (hLs : s₁.heap.IsList l items) (hI : IntsAre items.toList xs) (hlen : xs.length ≤ 63) :
    wpAny (model p w) callerA (call (.ref fa) [.ref l] []) (fun v s' => v = .bool true ∧ (∀ b o, s₁.heap.get? b = some o → s'.heap.get? b = some o) ∧ s'.os = s₁.os ∧ s'.gens = #[]) (fun _ _ => False) s₁ := by
  obtain ⟨og, _, _, e1, _⟩ := id g
  obtain ⟨h', hh, bb, bo, hb1, hb2⟩ := shrink s₁.heap e1
  have hk : ∀ b o, s₁.heap.get? b = some o → h'.get? b = some o := fun b o e => by rw [hh]; exact e
  have hI' : ∀ {C : Addr} {qual : Str} {d : Df}, InitOk s₁.heap K C qual d → InitOk h' K C qual d := fun hx1 => by
    obtain ⟨fI, o, pm, code, doc, ct, a1, a2, a3, a4, a5⟩ := hx1
    exact ⟨fI, o, pm, code, doc, ct, a1, a2, hk _ _ a3, a4, a5.keeps hk⟩
  have fn' : ∀ n d, defOf n = some d → ∃ a o pm code doc, mg n = some (.ref a) ∧ h'.get? a = some o ∧ o.data = .func (docDef n d.params d.body d.scope pm code doc) ∧ h'.CodeRec code n := fun n d hd => by
    obtain ⟨a, o, pm, code, doc, a1, a2, a3, a4⟩ := fn n d hd
    exact ⟨a, o, pm, code, doc, a1, hk _ _ a2, a3, a4.keeps hk⟩
  let c : Cx := ⟨p, w, mg, mb, h', s₁.os, K, cD, cE, g.keeps hk, b.keeps hk, nolimit.keeps hk, fn', const, bi, kin.keeps hk, nD, nE, cls, att, fun d hd => hI' (initD d hd), fun d hd => hI' (initE d hd)⟩
  have hLs' : c.base.IsList l items := by
    obtain ⟨ob, hob, hcl, nn, hdt⟩ := hLs
    exact ⟨ob, hk _ _ hob, hcl, nn, hdt⟩
  have rs : Rs c (fun b => s₁.heap.get? b) [] s₁ := ⟨fun b o e => by rw [← hh]; exact e, fun _ _ e => e, fun p hp => (by cases hp), List.nodup_nil, rfl, hg⟩
  refine wpAny_mono (c_law (n := 0) (c := c) hlen hLs' (ints_rel hI) callerA _ s₁ (.ref fa) [.ref l] ⟨rfl, by decide, by decide⟩ ⟨bb, bo, hb1, hb2⟩ rs hfa ⟨rfl, trivial⟩) (fun v s' => PC.go fun av σ' r hq hs' => ?_) fun _ _ x => x
  subst hq
  exact ⟨r, fun b o e => hs'.fix b o e, hs'.os, hs'.gens⟩
set_option maxRecDepth 100000
theorem mem_look {α : Type} {x : Str} {k : α} : ∀ {l : List (Str × α)}, l.lookup x = some k → (x, k) ∈ l
  | (y, j) :: r, h => by
    rw [List.lookup_cons] at h
    split at h
    · rename_i q; rw [beq_iff_eq.mp q]; cases h; exact .head _
    · exact .tail _ (mem_look h)
noncomputable def defPairs : List Stmt → List (Str × Df)
  | [] => []
  | .FunctionDef n a b _ _ _ sc _ _ _ :: r => (n, ⟨n, a, b, sc⟩) :: defPairs r
  | _ :: r => defPairs r
theorem def_pair {x : Str} {d : Df} : ∀ (body : List Stmt), defIn body x = some d → (x, d) ∈ defPairs body := by
  intro body
  induction body with
  | nil => intro h; cases h
  | cons st r ih =>
    intro h
    cases st with
    | FunctionDef n a b x1 x2 x3 sc x4 x5 x6 =>
      have h : (if n = x then some (Df.mk n a b sc) else defIn r x) = some d := h
      show (x, d) ∈ (n, Df.mk n a b sc) :: defPairs r
      by_cases q : n = x
      · rw [if_pos q] at h
        have e : Df.mk n a b sc = d := Option.some.inj h
        rw [← e, ← q]; exact .head _
      · rw [if_neg q] at h
        exact .tail _ (ih h)
    | _ => exact ih h
noncomputable def recPairs (p : Program) : List (Str × Df) := (recsOf p).map fun r => (r.name, ⟨r.name, r.params, r.body, r.scope⟩)
theorem fn_of {view : Program} {mg : Str → Option Value} {h : Heap}
    (Tf : ∀ d ∈ recsOf view, ∃ a o pm code doc, mg d.name = some (.ref a) ∧ h.get? a = some o ∧ o.data = .func (docDef d.name d.params d.body d.scope pm code doc) ∧ h.CodeRec code d.name)
    (hv : recPairs view = defPairs PySem.Challenge.pw_sm0125_01.main.body) :
    ∀ n d, defOf n = some d → ∃ a o pm code doc, mg n = some (.ref a) ∧ h.get? a = some o ∧ o.data = .func (docDef n d.params d.body d.scope pm code doc) ∧ h.CodeRec code n := fun n d hd => by
  have := def_pair _ hd
  rw [← hv] at this
  obtain ⟨r, hr, e⟩ := List.mem_map.mp this
  cases e
  exact Tf r hr
theorem initOk_of {K : Frag} {h : Heap} {C fI : Addr} {qual : Str} {d : Df} {o : Obj} {pm code doc ct : Value} (KX : K.In h) (h1 : findIn K (.ref C) "__init__" = some (some (.ref fI))) (h2 : isFn K (.ref fI) = true) (h3 : K.lookup fI = some o)
    (h4 : o.data = .func (fnOf "__init__" qual d.params d.body d.scope .none .none doc pm none code ct)) (h5 : codeIn K code qual = true) : InitOk h K C qual d :=
  ⟨fI, o, pm, code, doc, ct, h1, h2, KX _ _ h3, h4, codeRec_of KX h5⟩
end Mine
theorem Mine.all.tw3478140599217196340 : True := trivial
theorem Mine.all.tw200202858802481044 : True := trivial
theorem Mine.all.tw8179867642801808901 : True := trivial
theorem Mine.all.tw3915026414982717658 : True := trivial
theorem Mine.all.tw8013882960148741844 : True := trivial
theorem Mine.all.tw13303443592130718312 : True := trivial
theorem Mine.all.tw6572014698818158034 : True := trivial
theorem Mine.all.tw14025320374590446399 : True := trivial
theorem Mine.all.tw13997810634369890837 : True := trivial
theorem Mine.all.tw10587560488923977431 : True := trivial
theorem Mine.all.tw11045270430615452010 : True := trivial
theorem Mine.all.tw8417903233253371624 : True := trivial
theorem Mine.all.tw16985871876413990642 : True := trivial
theorem Mine.all.tw11931918283646908614 : True := trivial
theorem Mine.all.tw16353339288196904424 : True := trivial
theorem Mine.all.tw2090246831465914633 : True := trivial
theorem Mine.all.tw10559529623256829277 : True := trivial
theorem Mine.all.tw397829171339713761 : True := trivial
theorem Mine.all.tw16038885495234672192 : True := trivial
theorem Mine.all.tw321193242609270867 : True := trivial
theorem Mine.all.tw12847938454781286588 : True := trivial
theorem Mine.all.tw1095929389519559783 : True := trivial
theorem Mine.all.tw525001674005675781 : True := trivial
theorem Mine.all.tw1734884918528286522 : True := trivial
theorem Mine.all.tw6860577389561355601 : True := trivial
theorem Mine.all.tw5646740079091317433 : True := trivial
theorem Mine.all.tw9131408386013701786 : True := trivial
theorem Mine.all.tw2362829445674453831 : True := trivial
theorem Mine.all.tw15778654729900951400 : True := trivial
theorem Mine.all.tw6717767316833874322 : True := trivial
theorem Mine.all.tw14648276583578725374 : True := trivial
theorem Mine.all.tw5646013916729498261 : True := trivial
theorem Mine.all.tw6271033356711949733 : True := trivial
theorem Mine.all.tw18058516629519361111 : True := trivial
theorem Mine.all.tw5736023835603284372 : True := trivial
theorem Mine.all.tw5931688323066260514 : True := trivial
theorem Mine.all.tw3849640880644552707 : True := trivial
theorem Mine.all.tw17485024515217194642 : True := trivial
theorem Mine.all.tw4874642235004048027 : True := trivial
theorem Mine.all.tw12165253757503004218 : True := trivial
theorem Mine.all.tw1172340538976468734 : True := trivial
theorem Mine.all.tw76700771618905059 : True := trivial
theorem Mine.all.tw3165661143165402847 : True := trivial
theorem Mine.all.tw2638793534194840904 : True := trivial
theorem Mine.all.tw4154878040674242839 : True := trivial
theorem Mine.all.tw10316705163991428254 : True := trivial
theorem Mine.all.tw8908958038130373740 : True := trivial
theorem Mine.all.tw17112464921883037887 : True := trivial
theorem Mine.all.tw14421808642430287336 : True := trivial
theorem Mine.all.tw11488495728068971930 : True := trivial
theorem Mine.all.tw6393532188824929214 : True := trivial
theorem Mine.all.tw15145278206449419223 : True := trivial
theorem Mine.all.tw3788544764152331944 : True := trivial
theorem Mine.all.tw14883968960377749705 : True := trivial
theorem Mine.all.tw232827808551559825 : True := trivial
theorem Mine.all.tw14074921412963316263 : True := trivial
theorem Mine.all.tw13185015893256467352 : True := trivial
theorem Mine.all.tw18094267598192979275 : True := trivial
theorem Mine.all.tw10856765595117590405 : True := trivial
theorem Mine.all.tw9448091282758670523 : True := trivial
theorem Mine.all.tw13423135486485445016 : True := trivial
theorem Mine.all.tw282994513109133150 : True := trivial
theorem Mine.all.tw14549113301119539810 : True := trivial
theorem Mine.all.tw1216898108829112853 : True := trivial
theorem Mine.all.tw15902913901339227234 : True := trivial
theorem Mine.all.tw5377772837010204750 : True := trivial
theorem Mine.all.tw4965207536615798822 : True := trivial
theorem Mine.all.tw14832718209330476552 : True := trivial
theorem Mine.all.tw3835962111665225711 : True := trivial
theorem Mine.all.tw11120492362615346026 : True := trivial
theorem Mine.all.tw10600613889749566790 : True := trivial
theorem Mine.all.tw5888963250497168203 : True := trivial
theorem Mine.all.tw9642480246203547912 : True := trivial
theorem Mine.all.tw281770217567036725 : True := trivial
theorem Mine.all.tw16739083755425606968 : True := trivial
theorem Mine.all.tw11093295523969242068 : True := trivial
theorem Mine.all.tw3339628229899013760 : True := trivial
theorem Mine.all.tw8901488873923373992 : True := trivial
theorem Mine.all.tw14648097213134440425 : True := trivial
theorem Mine.all.tw4927947371108770993 : True := trivial
theorem Mine.all.tw6674347012523051200 : True := trivial
theorem Mine.all.tw3855190133869164905 : True := trivial
theorem Mine.all.tw497388943360791162 : True := trivial
theorem Mine.all.tw15059917014629022394 : True := trivial
theorem Mine.all.tw14124840197023413450 : True := trivial
theorem Mine.all.tw12254430714555821875 : True := trivial
theorem Mine.all.tw10636018739910865072 : True := trivial
theorem Mine.all.tw18003279642469066050 : True := trivial
theorem Mine.all.tw17103938086974590038 : True := trivial
theorem Mine.all.tw4613981591765525805 : True := trivial
theorem Mine.all.tw4544264296663088324 : True := trivial
theorem Mine.all.tw4613487602407358717 : True := trivial
theorem Mine.all.tw2891402810631288588 : True := trivial
theorem Mine.all.tw5615934883764171431 : True := trivial
theorem Mine.all.tw15081044799308232511 : True := trivial
theorem Mine.all.tw17740860788197283744 : True := trivial
theorem Mine.all.tw5440085390276978291 : True := trivial
theorem Mine.all.tw5870148494974776200 : True := trivial
theorem Mine.all.tw6575127235232548739 : True := trivial
theorem Mine.all.tw15888951733556516598 : True := trivial
theorem Mine.all.tw6495733333828780514 : True := trivial
theorem Mine.all.tw9111709882147129655 : True := trivial
theorem Mine.all.tw8909644736058714228 : True := trivial
theorem Mine.all.tw8401958774316805891 : True := trivial
theorem Mine.all.tw898707613593260451 : True := trivial
theorem Mine.all.tw15248031165874397040 : True := trivial
theorem Mine.all.tw7072849832022388479 : True := trivial
theorem Mine.all.tw8146785798897364014 : True := trivial
theorem Mine.all.tw7514489123796633772 : True := trivial
theorem Mine.all.tw10407399669362838719 : True := trivial
theorem Mine.all.tw7686242042924871683 : True := trivial
theorem Mine.all.tw17106608494224303150 : True := trivial
theorem Mine.all.tw2711446468545577505 : True := trivial
theorem Mine.all.tw10389294372677164839 : True := trivial
theorem Mine.all.tw18291108133853008933 : True := trivial
theorem Mine.all.tw6223034424235540279 : True := trivial
theorem Mine.all.tw11169558830825096451 : True := trivial
theorem Mine.all.tw10168888151487559394 : True := trivial
theorem Mine.all.tw9700507354520375304 : True := trivial
theorem Mine.all.tw5689438673786977140 : True := trivial
theorem Mine.all.tw7347299435816893626 : True := trivial
theorem Mine.all.tw5044639097624668846 : True := trivial
theorem Mine.all.tw14420213329864412023 : True := trivial
theorem Mine.all.tw17899929404969355535 : True := trivial
theorem Mine.all.tw200952908838891698 : True := trivial
theorem Mine.all.tw9385597778382524922 : True := trivial
theorem Mine.all.tw5002070824922625533 : True := trivial
theorem Mine.all.tw7317653850160689691 : True := trivial
theorem Mine.all.tw3440317332850252569 : True := trivial
theorem Mine.all.tw4561188658046838414 : True := trivial
theorem Mine.all.tw17394647144938102915 : True := trivial
theorem Mine.all.tw16788233547135642414 : True := trivial
theorem Mine.all.tw68815829978753266 : True := trivial
theorem Mine.all.tw9022205114861038860 : True := trivial
theorem Mine.all.tw10773934983489079739 : True := trivial
theorem Mine.all.tw5761313309558253367 : True := trivial
theorem Mine.all.tw3586251380002802234 : True := trivial
theorem Mine.all.tw15906484144062456574 : True := trivial
theorem Mine.all.tw14242173848286271349 : True := trivial
theorem Mine.all.tw2000609977361463965 : True := trivial
theorem Mine.all.tw13900070722340429276 : True := trivial
theorem Mine.all.tw15158558636265767147 : True := trivial
theorem Mine.all.tw13338274903956020161 : True := trivial
theorem Mine.all.tw14899674885815798178 : True := trivial
theorem Mine.all.tw15305453227285626446 : True := trivial
theorem Mine.all.tw4907521953547317329 : True := trivial
theorem Mine.all.tw4814944892674192296 : True := trivial
theorem Mine.all.tw15849158762323818722 : True := trivial
theorem Mine.all.tw16949009020806574942 : True := trivial
theorem Mine.all.tw2496985677507960046 : True := trivial
theorem Mine.all.tw2613816272192447989 : True := trivial
theorem Mine.all.tw14539000326390715668 : True := trivial
theorem Mine.all.tw4801688742562958406 : True := trivial
theorem Mine.all.tw1963270939698246839 : True := trivial
theorem Mine.all.tw14984247238865676675 : True := trivial
theorem Mine.all.tw12580110897883145167 : True := trivial
theorem Mine.all.tw11951307492845570281 : True := trivial
theorem Mine.all.tw10923070005692675132 : True := trivial
theorem Mine.all.tw10131221437080536637 : True := trivial
theorem Mine.all.tw16136937179128050694 : True := trivial
theorem Mine.all.tw11113120797386210373 : True := trivial
theorem Mine.all.tw17447734377096445370 : True := trivial
theorem Mine.all.tw8398887430952950212 : True := trivial
theorem Mine.all.tw10175558820241607032 : True := trivial
theorem Mine.all.tw4645612490112672357 : True := trivial
theorem Mine.all.tw5936211784296988740 : True := trivial
theorem Mine.all.tw14849280956162755979 : True := trivial
theorem Mine.all.tw13440094530129934690 : True := trivial
theorem Mine.all.tw3282140407130366615 : True := trivial
theorem Mine.all.tw3153289441736887298 : True := trivial
theorem Mine.all.tw12563031120210811263 : True := trivial
theorem Mine.all.tw7824222052329908659 : True := trivial
theorem Mine.all.tw14204109254541194217 : True := trivial
theorem Mine.all.tw11158953913317867288 : True := trivial
theorem Mine.all.tw4847766330237268548 : True := trivial
theorem Mine.all.tw44263415142174766 : True := trivial
theorem Mine.all.tw11990357761064164650 : True := trivial
theorem Mine.all.tw1758426702102747128 : True := trivial
theorem Mine.all.tw11139934685464864865 : True := trivial
theorem Mine.all.tw8108845850537571710 : True := trivial
theorem Mine.all.tw12304872625307995750 : True := trivial
theorem Mine.all.tw4214497047443048748 : True := trivial
theorem Mine.all.tw11573567738276184859 : True := trivial
theorem Mine.all.tw8543756510809834644 : True := trivial
theorem Mine.all.tw3949192924188805160 : True := trivial
theorem Mine.all.tw6176105912117767087 : True := trivial
theorem Mine.all.tw15151187641303801864 : True := trivial
theorem Mine.all.tw12028550053918628185 : True := trivial
theorem Mine.all.tw100579137028481972 : True := trivial
theorem Mine.all.tw3318330705443729038 : True := trivial
theorem Mine.all.tw14081932915414352519 : True := trivial
theorem Mine.all.tw2479237469882504799 : True := trivial
theorem Mine.all.tw13057232943065969744 : True := trivial
theorem Mine.all.tw15076152544538823220 : True := trivial
theorem Mine.all.tw5815207240830897808 : True := trivial
theorem Mine.all.tw6189357195160471388 : True := trivial
theorem Mine.all.tw13172091369480311280 : True := trivial
theorem Mine.all.tw2842816785644039571 : True := trivial
theorem Mine.all.tw11798761498685784450 : True := trivial
theorem Mine.all.tw11776277695535270532 : True := trivial
theorem Mine.all.tw7159026401054745538 : True := trivial
theorem Mine.all.tw433751870149770472 : True := trivial
theorem Mine.all.tw10331167273965929257 : True := trivial
theorem Mine.all.tw8670540905479144303 : True := trivial
theorem Mine.all.tw11102767992079720913 : True := trivial
theorem Mine.all.tw11446199593928302625 : True := trivial
theorem Mine.all.tw8322597137079436277 : True := trivial
theorem Mine.all.tw9397017562490477109 : True := trivial
theorem Mine.all.tw14310873030558110092 : True := trivial
theorem Mine.all.tw927500100414286832 : True := trivial
theorem Mine.all.tw13752750167953387420 : True := trivial
theorem Mine.all.tw5747321363474778693 : True := trivial
theorem Mine.all.tw12803817524326497440 : True := trivial
theorem Mine.all.tw7755422918602135030 : True := trivial
theorem Mine.all.tw12512054102949984058 : True := trivial
theorem Mine.all.tw11925040711228000680 : True := trivial
theorem Mine.all.tw9952970006915852218 : True := trivial
theorem Mine.all.tw9764797518255496921 : True := trivial
theorem Mine.all.tw18068929663759586442 : True := trivial
theorem Mine.all.tw14970210157437980911 : True := trivial
theorem Mine.all.tw16694476904998839863 : True := trivial
theorem Mine.all.tw12819504698909858696 : True := trivial
theorem Mine.all.tw5213130599944360801 : True := trivial
theorem Mine.all.tw5103548895888603802 : True := trivial
theorem Mine.all.tw201708328148552895 : True := trivial
theorem Mine.all.tw10252965763247687682 : True := trivial
theorem Mine.all.tw7205895575636617080 : True := trivial
theorem Mine.all.tw5217560924200664910 : True := trivial
theorem Mine.all.tw13930999109560414629 : True := trivial
theorem Mine.all.tw9305783451064888827 : True := trivial
theorem Mine.all.tw12248520049373816357 : True := trivial
theorem Mine.all.tw10156424416328317940 : True := trivial
theorem Mine.all.tw6742200501135914891 : True := trivial
theorem Mine.all.tw5884965284304258897 : True := trivial
theorem Mine.all.tw3138800457800853586 : True := trivial
theorem Mine.all.tw15519761934197397234 : True := trivial
theorem Mine.all.tw12588980310967471357 : True := trivial
theorem Mine.all.tw13027540482245733427 : True := trivial
theorem Mine.all.tw12221947951091446842 : True := trivial
theorem Mine.all.tw5854907428364158380 : True := trivial
theorem Mine.all.tw5615151462926910227 : True := trivial
theorem Mine.all.tw16447172759540358135 : True := trivial
theorem Mine.all.tw16444899576201249432 : True := trivial
theorem Mine.all.tw10073190252686323273 : True := trivial
theorem Mine.all.tw2013830700403712203 : True := trivial
theorem Mine.all.tw2286941943676669977 : True := trivial
theorem Mine.all.tw18441473437031201941 : True := trivial
theorem Mine.all.tw1585303152785439333 : True := trivial
theorem Mine.all.tw9514876090768664877 : True := trivial
theorem Mine.all.tw3832104259330054055 : True := trivial
theorem Mine.all.tw13215351417096909983 : True := trivial
theorem Mine.all.tw6686757251022233349 : True := trivial
theorem Mine.all.tw6656463916972431421 : True := trivial
theorem Mine.all.tw17558465517493045558 : True := trivial
theorem Mine.all.tw14229981574245695772 : True := trivial
theorem Mine.all.tw11736780227944870738 : True := trivial
theorem Mine.all.tw5362506446432344171 : True := trivial
theorem Mine.all.tw2020152571437148077 : True := trivial
theorem Mine.all.tw17523770736405063376 : True := trivial
theorem Mine.all.tw888978351763286717 : True := trivial
theorem Mine.all.tw5463181917568680212 : True := trivial
theorem Mine.all.tw18343157571677020557 : True := trivial
theorem Mine.all.tw8678582069086723682 : True := trivial
theorem Mine.all.tw6635522753158126860 : True := trivial
theorem Mine.all.tw15414233836422861205 : True := trivial
theorem Mine.all.tw15393178847056368160 : True := trivial
theorem Mine.all.tw9285670843845949155 : True := trivial
theorem Mine.all.tw7272270352196073673 : True := trivial
theorem Mine.all.tw18118164260907729349 : True := trivial
theorem Mine.all.tw5555718599999811639 : True := trivial
theorem Mine.all.tw17393663094203119047 : True := trivial
theorem Mine.all.tw12899656968702213925 : True := trivial
theorem Mine.all.tw10576110018494610262 : True := trivial
theorem Mine.all.tw7778630667622746703 : True := trivial
theorem Mine.all.tw13132907815185506690 : True := trivial
theorem Mine.all.tw12540455083557110006 : True := trivial
theorem Mine.all.tw10323370424266482742 : True := trivial
theorem Mine.all.tw10677670038743541358 : True := trivial
theorem Mine.all.tw10393596885623623503 : True := trivial
theorem Mine.all.tw9600454056292803967 : True := trivial
theorem Mine.all.tw1298631472846954095 : True := trivial
theorem Mine.all.tw17468886310826310451 : True := trivial
theorem Mine.all.tw7918374967389245632 : True := trivial
theorem Mine.all.tw12981892083367582941 : True := trivial
theorem Mine.all.tw8166991320080258738 : True := trivial
theorem Mine.all.tw7916160540357663616 : True := trivial
theorem Mine.all.tw4634341240264483431 : True := trivial
theorem Mine.all.tw8486705261324164726 : True := trivial
theorem Mine.all.tw7619113539625694710 : True := trivial
theorem Mine.all.tw9592678889267232940 : True := trivial
theorem Mine.all.tw1352723322627576488 : True := trivial
theorem Mine.all.tw4942582282674782268 : True := trivial
theorem Mine.all.tw10034031380863371641 : True := trivial
theorem Mine.all.tw15054863418237798948 : True := trivial
theorem Mine.all.tw14099800850047386279 : True := trivial
theorem Mine.all.tw12985212532813657682 : True := trivial
theorem Mine.all.tw6405578165278201989 : True := trivial
theorem Mine.all.tw12784588452913835247 : True := trivial
theorem Mine.all.tw1639981616727947583 : True := trivial
theorem Mine.all.tw14832659646925512398 : True := trivial
theorem Mine.all.tw5543487718492105064 : True := trivial
theorem Mine.all.tw11961059351148515626 : True := trivial
theorem Mine.all.tw11273133048781285286 : True := trivial
theorem Mine.all.tw8968355716326206664 : True := trivial
theorem Mine.all.tw9743695723290020096 : True := trivial
theorem Mine.all.tw5641124861440336686 : True := trivial
theorem Mine.all.tw4899250830898163692 : True := trivial
theorem Mine.all.tw3737605839529819480 : True := trivial
theorem Mine.all.tw4241227540667249002 : True := trivial
theorem Mine.all.tw9526568234960664165 : True := trivial
theorem Mine.all.tw17292822351017121783 : True := trivial
theorem Mine.all.tw14929683446248860828 : True := trivial
theorem Mine.all.tw8026366407565007962 : True := trivial
theorem Mine.all.tw16339503202031470875 : True := trivial
theorem Mine.all.tw14044709251442629906 : True := trivial
theorem Mine.all.tw11533779600810293282 : True := trivial
theorem Mine.all.tw11038128598146805730 : True := trivial
theorem Mine.all.tw16987476370533704557 : True := trivial
theorem Mine.all.tw7957553974722075628 : True := trivial
theorem Mine.all.tw2406872565856053176 : True := trivial
theorem Mine.all.tw17314943208353570444 : True := trivial
theorem Mine.all.tw17053130121481772103 : True := trivial
theorem Mine.all.tw1323426155142419162 : True := trivial
theorem Mine.all.tw11931136993785318394 : True := trivial
theorem Mine.all.tw8076105961534405009 : True := trivial
theorem Mine.all.tw11298796024306172991 : True := trivial
theorem Mine.all.tw9833964599435250050 : True := trivial
theorem Mine.all.tw18074533905802821072 : True := trivial
theorem Mine.all.tw18120535436291149196 : True := trivial
theorem Mine.all.tw17260577670642009320 : True := trivial
theorem Mine.all.tw15926794790568321017 : True := trivial
theorem Mine.all.tw9351078540693612215 : True := trivial
theorem Mine.all.tw7855422573467142813 : True := trivial
theorem Mine.all.tw6178583632892115015 : True := trivial
theorem Mine.all.tw5927061715728957476 : True := trivial
theorem Mine.all.tw13663018214320142090 : True := trivial
theorem Mine.all.tw11375281295658956675 : True := trivial
theorem Mine.all.tw8985482155869072404 : True := trivial
theorem Mine.all.tw29985565223642888 : True := trivial
theorem Mine.all.tw17360653242477243975 : True := trivial
theorem Mine.all.tw11051709101105081487 : True := trivial
theorem Mine.all.tw8593244855664925795 : True := trivial
theorem Mine.all.tw16573077582942348641 : True := trivial
theorem Mine.all.tw17717444079117462278 : True := trivial
theorem Mine.all.tw13370487131934946175 : True := trivial
theorem Mine.all.tw9496632788025766839 : True := trivial
theorem Mine.all.tw8007103614756019116 : True := trivial
theorem Mine.all.tw7785168158365692624 : True := trivial
theorem Mine.all.tw7657994479303150727 : True := trivial
theorem Mine.all.tw1717485560449817402 : True := trivial
theorem Mine.all.tw16644902639655322133 : True := trivial
theorem Mine.all.tw12180536567876656950 : True := trivial
theorem Mine.all.tw12139988101201813748 : True := trivial
theorem Mine.all.tw4631590275013254457 : True := trivial
theorem Mine.all.tw13270532327374429287 : True := trivial
theorem Mine.all.tw12405882331826627501 : True := trivial
theorem Mine.all.tw11084693905056812178 : True := trivial
theorem Mine.all.tw4244794441018138637 : True := trivial
theorem Mine.all.tw13320810954380615167 : True := trivial
theorem Mine.all.tw10793401674749092046 : True := trivial
theorem Mine.all.tw3804168243799541492 : True := trivial
theorem Mine.all.tw12428716410969305734 : True := trivial
theorem Mine.all.tw9163178095015654352 : True := trivial
theorem Mine.all.tw15618092478124507917 : True := trivial
theorem Mine.all.tw15176617289070330970 : True := trivial
theorem Mine.all.tw4818641064637329869 : True := trivial
theorem Mine.all.tw9976896545867408452 : True := trivial
theorem Mine.all.tw9609096358927944886 : True := trivial
theorem Mine.all.tw9099960808112739735 : True := trivial
theorem Mine.all.tw9090173269774583996 : True := trivial
theorem Mine.all.tw9069304868558884969 : True := trivial
theorem Mine.all.tw884644925536651315 : True := trivial
theorem Mine.all.tw8838840417862019655 : True := trivial
theorem Mine.all.tw8820459466428253018 : True := trivial
theorem Mine.all.tw8749193726656077916 : True := trivial
theorem Mine.all.tw8728704332973717658 : True := trivial
theorem Mine.all.tw8600759836979252552 : True := trivial
theorem Mine.all.tw8486076525276431931 : True := trivial
theorem Mine.all.tw8316665608867782698 : True := trivial
theorem Mine.all.tw8183209053709734173 : True := trivial
theorem Mine.all.tw8111057081096800836 : True := trivial
theorem Mine.all.tw8096221689764760052 : True := trivial
theorem Mine.all.tw7899379758991183832 : True := trivial
theorem Mine.all.tw785864177541677141 : True := trivial
theorem Mine.all.tw7848317997028865603 : True := trivial
theorem Mine.all.tw7779866328928976063 : True := trivial
theorem Mine.all.tw7400686549319467544 : True := trivial
theorem Mine.all.tw7238125184777875665 : True := trivial
theorem Mine.all.tw7234240908195146063 : True := trivial
theorem Mine.all.tw7193976414177721783 : True := trivial
theorem Mine.all.tw6900727353157573822 : True := trivial
theorem Mine.all.tw6873541528101158377 : True := trivial
theorem Mine.all.tw6849123771955923804 : True := trivial
theorem Mine.all.tw6169999212503205497 : True := trivial
theorem Mine.all.tw596421839371371174 : True := trivial
theorem Mine.all.tw5919330448614353153 : True := trivial
theorem Mine.all.tw5750698986362780913 : True := trivial
theorem Mine.all.tw5727973534668710794 : True := trivial
theorem Mine.all.tw561872325786274548 : True := trivial
theorem Mine.all.tw5221675337516389627 : True := trivial
theorem Mine.all.tw5191467471856622273 : True := trivial
theorem Mine.all.tw5187159431361770467 : True := trivial
theorem Mine.all.tw5007245332940595331 : True := trivial
theorem Mine.all.tw4983024317834737482 : True := trivial
theorem Mine.all.tw4835796080096327916 : True := trivial
theorem Mine.all.tw4786962568827011835 : True := trivial
theorem Mine.all.tw4726450323565452186 : True := trivial
theorem Mine.all.tw4716985721665009587 : True := trivial
theorem Mine.all.tw4498182102138418894 : True := trivial
theorem Mine.all.tw4382491568596388571 : True := trivial
theorem Mine.all.tw4350801690150286559 : True := trivial
theorem Mine.all.tw4338314545742005754 : True := trivial
theorem Mine.all.tw4258606087713283508 : True := trivial
theorem Mine.all.tw4215066571649420964 : True := trivial
theorem Mine.all.tw4198835854440487071 : True := trivial
theorem Mine.all.tw407466490171300439 : True := trivial
theorem Mine.all.tw3630066180865283129 : True := trivial
theorem Mine.all.tw3578222212851893600 : True := trivial
theorem Mine.all.tw3527972740633252992 : True := trivial
theorem Mine.all.tw3468823194966119755 : True := trivial
theorem Mine.all.tw3448833343719912132 : True := trivial
theorem Mine.all.tw3357559941945735724 : True := trivial
theorem Mine.all.tw3318677167507295741 : True := trivial
theorem Mine.all.tw3298683737301795645 : True := trivial
theorem Mine.all.tw3140866203998610647 : True := trivial
theorem Mine.all.tw3108443244893856389 : True := trivial
theorem Mine.all.tw306535358961565008 : True := trivial
theorem Mine.all.tw2997595627926355555 : True := trivial
theorem Mine.all.tw2972125363121769464 : True := trivial
theorem Mine.all.tw2863937026978368667 : True := trivial
theorem Mine.all.tw2792250951161479536 : True := trivial
theorem Mine.all.tw2750322548573693319 : True := trivial
theorem Mine.all.tw247909236438806434 : True := trivial
theorem Mine.all.tw2316775634158704177 : True := trivial
theorem Mine.all.tw2235618017368140517 : True := trivial
theorem Mine.all.tw1973140245219671491 : True := trivial
theorem Mine.all.tw18440353960458814819 : True := trivial
theorem Mine.all.tw18433669859833586122 : True := trivial
theorem Mine.all.tw18369841484834026144 : True := trivial
theorem Mine.all.tw18124843273605240230 : True := trivial
theorem Mine.all.tw18111398738982083773 : True := trivial
theorem Mine.all.tw17983917188297756147 : True := trivial
theorem Mine.all.tw17933553581876595578 : True := trivial
theorem Mine.all.tw17846619120630023766 : True := trivial
theorem Mine.all.tw17800948086707717751 : True := trivial
theorem Mine.all.tw17469454598705902373 : True := trivial
theorem Mine.all.tw17368901067910498557 : True := trivial
theorem Mine.all.tw17259241986408110582 : True := trivial
theorem Mine.all.tw1694654335647164047 : True := trivial
theorem Mine.all.tw16857469709051444266 : True := trivial
theorem Mine.all.tw16779862611959906862 : True := trivial
theorem Mine.all.tw16773635481313006432 : True := trivial
theorem Mine.all.tw16747629065405408630 : True := trivial
theorem Mine.all.tw16740921855470316824 : True := trivial
theorem Mine.all.tw16424727738075169484 : True := trivial
theorem Mine.all.tw16183010546200382306 : True := trivial
theorem Mine.all.tw16084742875079473383 : True := trivial
theorem Mine.all.tw1604050991321148793 : True := trivial
theorem Mine.all.tw15968848678202421516 : True := trivial
theorem Mine.all.tw15670805634923389295 : True := trivial
theorem Mine.all.tw15575253945988166476 : True := trivial
theorem Mine.all.tw15541118713287057729 : True := trivial
theorem Mine.all.tw15451204947285891726 : True := trivial
theorem Mine.all.tw15389465554420088467 : True := trivial
theorem Mine.all.tw15284455985751111415 : True := trivial
theorem Mine.all.tw15242674970999812785 : True := trivial
theorem Mine.all.tw15105651507014581045 : True := trivial
theorem Mine.all.tw14848961488311411958 : True := trivial
theorem Mine.all.tw14822214895437561417 : True := trivial
theorem Mine.all.tw14721843458392949018 : True := trivial
theorem Mine.all.tw14701963045326077753 : True := trivial
theorem Mine.all.tw14444207656584330654 : True := trivial
theorem Mine.all.tw14288127532215574351 : True := trivial
theorem Mine.all.tw14274756557212989909 : True := trivial
theorem Mine.all.tw14003663102062188800 : True := trivial
theorem Mine.all.tw13912068318134460016 : True := trivial
theorem Mine.all.tw13596499734656872166 : True := trivial
theorem Mine.all.tw13492395982464255480 : True := trivial
theorem Mine.all.tw13283931332471535325 : True := trivial
theorem Mine.all.tw1326175403826912198 : True := trivial
theorem Mine.all.tw13113687655016186724 : True := trivial
theorem Mine.all.tw13100642850353945058 : True := trivial
theorem Mine.all.tw13042374122123996364 : True := trivial
theorem Mine.all.tw12926333453430215753 : True := trivial
theorem Mine.all.tw12885334096101347146 : True := trivial
theorem Mine.all.tw125183967897747985 : True := trivial
theorem Mine.all.tw12447178028490564450 : True := trivial
theorem Mine.all.tw12267468486907949403 : True := trivial
theorem Mine.all.tw12071712058454129317 : True := trivial
theorem Mine.all.tw11928815663860865973 : True := trivial
theorem Mine.all.tw11904431243951574334 : True := trivial
theorem Mine.all.tw11536899603342547138 : True := trivial
theorem Mine.all.tw11489409643829403841 : True := trivial
theorem Mine.all.tw11448872678469705673 : True := trivial
theorem Mine.all.tw11242623580682996947 : True := trivial
theorem Mine.all.tw11230645906715702508 : True := trivial
theorem Mine.all.tw11116879363250112325 : True := trivial
theorem Mine.all.tw11091474679367250208 : True := trivial
theorem Mine.all.tw11051373392699811023 : True := trivial
theorem Mine.all.tw10971250334911043752 : True := trivial
theorem Mine.all.tw10915074446201010522 : True := trivial
theorem Mine.all.tw1088589479996732829 : True := trivial
theorem Mine.all.tw1075291646940621582 : True := trivial
theorem Mine.all.tw10705108097460422218 : True := trivial
theorem Mine.all.tw10640303290150162726 : True := trivial
theorem Mine.all.tw10312239555926195531 : True := trivial
theorem Mine.all.tw10289937546816008636 : True := trivial
theorem Mine.all.tw10277526245819850656 : True := trivial
theorem Mine.all.tw10268101183197098196 : True := trivial
theorem Mine.all.tw10130366669087276332 : True := trivial
theorem Mine.all.tw10081088541268293599 : True := trivial
open PySem PySem.W PyProof.Rows
set_option Elab.async true in
set_option maxRecDepth 100000 in
set_option maxHeartbeats 8000000 in
theorem Mine.all : PySem.Challenge.rw_sm0125_01.Holds := by
  w_on
  o_law
  k_head
  (case hw => w_witness2)
  k_fill
  intro w s₀ s₁ mg mb G Y fa o pm cd doc dV kV ho hd hcd hD hmg hg args vals as hpre hlay hrd hwl hlo
  have KX := kIn_of Y
  have V := (Ground.X G).2
  refine Ground.open G ?_
  intro T B D TE TW
  wrow_args hpre hlay hrd hwl hlo
  rename_i xs hs hl0 hL1 hr1 hl2 as4 as3 l vs as' hLs ra w1 r0 hI hr hc1 hc2
  clear TW TE D B G Y ho hd hcd hD hr r0 w1 ra hr1 hL1 hl0 hs hl2 hc2
  have nD := mg_of (n := "Disk") KX T.g (v := _) (by k_is)
  have nE := mg_of (n := "Entry") KX T.g (v := _) (by k_is)
  refine wpAny_mono (Mine.law_run T.g T.b T.nolimit (Mine.fn_of T.fn (by kernel_rfl)) ?const ?bi KX nD nE ?cls ?att ?initD ?initE hg hmg hLs (items := vs.toArray) hI (by lia)) (fun v s' h => ?fin) (fun _ _ x => x.elim)
  case cls =>
    rintro C (rfl | rfl)
    · exact ⟨by k_is, by k_is, by k_is, by k_is, by k_is⟩
    · exact ⟨by k_is, by k_is, by k_is, by k_is, by k_is⟩
  case const =>
    intro n i h
    have h := Mine.mem_look h
    unfold Mine.consts at h
    rcases List.mem_cons.mp h with h | h
    · cases h; exact ⟨_, mg_of KX T.g (by k_is)⟩
    rcases List.mem_cons.mp h with h | h
    · cases h; exact ⟨_, mg_of KX T.g (by k_is)⟩
    rcases List.mem_cons.mp h with h | h
    · cases h; exact ⟨_, mg_of KX T.g (by k_is)⟩
    rcases List.mem_cons.mp h with h | h
    · cases h; exact ⟨_, mg_of KX T.g (by k_is)⟩
    rcases List.mem_cons.mp h with h | h
    · cases h; exact ⟨_, mg_of KX T.g (by k_is)⟩
    rcases List.mem_cons.mp h with h | h
    · cases h; exact ⟨_, mg_of KX T.g (by k_is)⟩
    rcases List.mem_cons.mp h with h | h
    · cases h; exact ⟨_, mg_of KX T.g (by k_is)⟩
    rcases List.mem_cons.mp h with h | h
    · cases h; exact ⟨_, mg_of KX T.g (by k_is)⟩
    rcases List.mem_cons.mp h with h | h
    · cases h; exact ⟨_, mg_of KX T.g (by k_is)⟩
    rcases List.mem_cons.mp h with h | h
    · cases h; exact ⟨_, mg_of KX T.g (by k_is)⟩
    rcases List.mem_cons.mp h with h | h
    · cases h; exact ⟨_, mg_of KX T.g (by k_is)⟩
    rcases List.mem_cons.mp h with h | h
    · cases h; exact ⟨_, mg_of KX T.g (by k_is)⟩
    rcases List.mem_cons.mp h with h | h
    · cases h; exact ⟨_, mg_of KX T.g (by k_is)⟩
    rcases List.mem_cons.mp h with h | h
    · cases h; exact ⟨_, mg_of KX T.g (by k_is)⟩
    rcases List.mem_cons.mp h with h | h
    · cases h; exact ⟨_, mg_of KX T.g (by k_is)⟩
    rcases List.mem_cons.mp h with h | h
    · cases h; exact ⟨_, mg_of KX T.g (by k_is)⟩
    rcases List.mem_cons.mp h with h | h
    · cases h; exact ⟨_, mg_of KX T.g (by k_is)⟩
    rcases List.mem_cons.mp h with h | h
    · cases h; exact ⟨_, mg_of KX T.g (by k_is)⟩
    rcases List.mem_cons.mp h with h | h
    · cases h; exact ⟨_, mg_of KX T.g (by k_is)⟩
    rcases List.mem_cons.mp h with h | h
    · cases h; exact ⟨_, mg_of KX T.g (by k_is)⟩
    rcases List.mem_cons.mp h with h | h
    · cases h; exact ⟨_, mg_of KX T.g (by k_is)⟩
    rcases List.mem_cons.mp h with h | h
    · cases h; exact ⟨_, mg_of KX T.g (by k_is)⟩
    rcases List.mem_cons.mp h with h | h
    · cases h; exact ⟨_, mg_of KX T.g (by k_is)⟩
    cases h
  case bi =>
    intro n v h
    have h := Mine.mem_look h
    unfold Mine.builtinsUsed at h
    rcases List.mem_cons.mp h with h | h
    · cases h; exact ⟨mg_none_of KX T.g (by k_is), (T.builtins _ (by decide)).trans (by kernel_rfl)⟩
    rcases List.mem_cons.mp h with h | h
    · cases h; exact ⟨mg_none_of KX T.g (by k_is), (T.builtins _ (by decide)).trans (by kernel_rfl)⟩
    rcases List.mem_cons.mp h with h | h
    · cases h; exact ⟨mg_none_of KX T.g (by k_is), (T.builtins _ (by decide)).trans (by kernel_rfl)⟩
    rcases List.mem_cons.mp h with h | h
    · cases h; exact ⟨mg_none_of KX T.g (by k_is), (T.builtins _ (by decide)).trans (by kernel_rfl)⟩
    rcases List.mem_cons.mp h with h | h
    · cases h; exact ⟨mg_none_of KX T.g (by k_is), (T.builtins _ (by decide)).trans (by kernel_rfl)⟩
    rcases List.mem_cons.mp h with h | h
    · cases h; exact ⟨mg_none_of KX T.g (by k_is), (T.builtins _ (by decide)).trans (by kernel_rfl)⟩
    rcases List.mem_cons.mp h with h | h
    · cases h; exact ⟨mg_none_of KX T.g (by k_is), (T.builtins _ (by decide)).trans (by kernel_rfl)⟩
    rcases List.mem_cons.mp h with h | h
    · cases h; exact ⟨mg_none_of KX T.g (by k_is), (T.builtins _ (by decide)).trans (by kernel_rfl)⟩
    rcases List.mem_cons.mp h with h | h
    · cases h; exact ⟨mg_none_of KX T.g (by k_is), (T.builtins _ (by decide)).trans (by kernel_rfl)⟩
    rcases List.mem_cons.mp h with h | h
    · cases h; exact ⟨mg_none_of KX T.g (by k_is), (T.builtins _ (by decide)).trans (by kernel_rfl)⟩
    rcases List.mem_cons.mp h with h | h
    · cases h; exact ⟨mg_none_of KX T.g (by k_is), (T.builtins _ (by decide)).trans (by kernel_rfl)⟩
    rcases List.mem_cons.mp h with h | h
    · cases h; exact ⟨mg_none_of KX T.g (by k_is), (T.builtins _ (by decide)).trans (by kernel_rfl)⟩
    cases h
  case att =>
    intro C hC x h
    have h : x ∈ Mine.attrNames := by simpa using h
    unfold Mine.attrNames at h
    simp only [List.map_cons, List.map_nil] at h
    rcases List.mem_cons.mp h with h | h
    · subst h
      rcases hC with hC | hC <;> subst hC <;> exact ⟨by k_is, by k_is, by k_is⟩
    rcases List.mem_cons.mp h with h | h
    · subst h
      rcases hC with hC | hC <;> subst hC <;> exact ⟨by k_is, by k_is, by k_is⟩
    rcases List.mem_cons.mp h with h | h
    · subst h
      rcases hC with hC | hC <;> subst hC <;> exact ⟨by k_is, by k_is, by k_is⟩
    rcases List.mem_cons.mp h with h | h
    · subst h
      rcases hC with hC | hC <;> subst hC <;> exact ⟨by k_is, by k_is, by k_is⟩
    rcases List.mem_cons.mp h with h | h
    · subst h
      rcases hC with hC | hC <;> subst hC <;> exact ⟨by k_is, by k_is, by k_is⟩
    rcases List.mem_cons.mp h with h | h
    · subst h
      rcases hC with hC | hC <;> subst hC <;> exact ⟨by k_is, by k_is, by k_is⟩
    rcases List.mem_cons.mp h with h | h
    · subst h
      rcases hC with hC | hC <;> subst hC <;> exact ⟨by k_is, by k_is, by k_is⟩
    rcases List.mem_cons.mp h with h | h
    · subst h
      rcases hC with hC | hC <;> subst hC <;> exact ⟨by k_is, by k_is, by k_is⟩
    rcases List.mem_cons.mp h with h | h
    · subst h
      rcases hC with hC | hC <;> subst hC <;> exact ⟨by k_is, by k_is, by k_is⟩
    rcases List.mem_cons.mp h with h | h
    · subst h
      rcases hC with hC | hC <;> subst hC <;> exact ⟨by k_is, by k_is, by k_is⟩
    rcases List.mem_cons.mp h with h | h
    · subst h
      rcases hC with hC | hC <;> subst hC <;> exact ⟨by k_is, by k_is, by k_is⟩
    rcases List.mem_cons.mp h with h | h
    · subst h
      rcases hC with hC | hC <;> subst hC <;> exact ⟨by k_is, by k_is, by k_is⟩
    rcases List.mem_cons.mp h with h | h
    · subst h
      rcases hC with hC | hC <;> subst hC <;> exact ⟨by k_is, by k_is, by k_is⟩
    cases h
  case initD =>
    intro d h
    have e := h.symm.trans (show Mine.initOf "Disk" = some (Mine.Df.mk _ _ _ _) from rfl)
    obtain rfl := Option.some.inj e
    exact Mine.initOk_of KX (by k_is) (by k_is) (by k_is) (by with_unfolding_all rfl) (by k_is)
  case initE =>
    intro d h
    have e := h.symm.trans (show Mine.initOf "Entry" = some (Mine.Df.mk _ _ _ _) from rfl)
    obtain rfl := Option.some.inj e
    exact Mine.initOk_of KX (by k_is) (by k_is) (by k_is) (by with_unfolding_all rfl) (by k_is)
  case fin =>
    obtain ⟨rfl, h1, h2, h3⟩ := h
    exact GoodW.toG ⟨.inl ⟨_, .bool true, [], rfl, fun cls => rfl, .bool true, by wrow_post, fun _ => ⟨List.nodup_nil, fun a ha => by cases ha⟩⟩, h1, h2, h3⟩
theorem PySem.Challenge.cw_sm0125_01_holds : PySem.Challenge.rw_sm0125_01.Holds :=
  Mine.all
