import PyProof.Rows.All
import PySem.Challenge.RW_leftout_k01_kinds_of_values
import HandS.ForMost
import HandS.ForExc
import HandS.CallSlots
import HandS.HeadHook1
import HandS.ExcInit
import HandS.ExcValue
import HandS.Wide
import HandS.TupAny
import HandS.Deep
import HandS.Iter
import HandS.IsInst
import HandS.StrMore
import HandS.Codes
import HandS.RaiseMore
import HandS.Replace
import HandS.ExcField
import HandS.ExcIs
import HandS.TryMany
import HandS.TryElse
import HandS.TryOnly
import HandS.ExcOwn
import HandS.WordsExc
import HandS.Defaults
import HandS.Ends
import HandS.HeadEnd
import HandS.HeadHook4
import HandS.Head2
import HandS.FStr
import HandS.SortKw
import KE.SortKeyHeap
import KE.DataIsa
import HandS.Words
import HandS.Style
import KE.KExcIs
set_option Elab.async false
set_option linter.all false
set_option maxRecDepth 100000
set_option maxHeartbeats 8123000
/-! Mp, part 1: values, the store, what stands for what; the judgements. -/
namespace Mp
open PySem PySem.Spec PyProof.Rows L2

/-- values: tuples and lists that nobody changes are inline; loc n is a changeable object of the store -/
inductive D where
  | non | bl (b : Bool) | int (i : Int) | str (x : List Nat) | tup (xs : List D) | lst (xs : List D) | loc (n : Nat) | scr (ns : List Int) | exn (c f : Nat) (d : D)
/-- a changeable object: a list; a dict (locked or not, its keys tuples or not); an instance of a class of the program, its fields by their numbers -/
inductive Cell where
  | lst (xs : List D) | dct (lk T : Bool) (kvs : List (D × D)) | obj (c : Nat) (fs : List (Nat × D))
/-- the names of the program's classes, of its fields -/
def clsL : List Str := ("Trial" : Str) :: ("Book" : Str) :: ("Draft" : Str) :: ("Console" : Str) :: ("Difference" : Str) :: ("Edit" : Str) :: ("Omit" : Str) :: ("ProgramEdit" : Str) :: ("Replace" : Str) :: ("Insert" : Str) :: ("LeftoutError" : Str) :: ("MissingError" : Str) :: ("StoppedError" : Str) :: ("InvalidValue" : Str) :: ("InvalidCell" : Str) :: ("InvalidText" : Str) :: ("InvalidTree" : Str) :: ("InvalidInteger" : Str) :: ("InvalidChanges" : Str) :: ("InvalidCells" : Str) :: ("InvalidState" : Str) :: ("InvalidDifference" : Str) :: ("InvalidOutcome" : Str) :: ("InvalidEntry" : Str) :: ("InvalidLog" : Str) :: ("InvalidEdit" : Str) :: ("InvalidVariant" : Str) :: ("InvalidPassage" : Str) :: ("InvalidGoal" : Str) :: ("InvalidName" : Str) :: ("InvalidCommand" : Str) :: ("InvalidProgram" : Str) :: ("InvalidLine" : Str) :: ("DuplicateEdit" : Str) :: ("DuplicateName" : Str) :: ("TooMany" : Str) :: ("AbsentCell" : Str) :: ("NoChange" : Str) :: ("NoMoment" : Str) :: ("NoEntry" : Str) :: ("NoVariant" : Str) :: ("NoName" : Str) :: ("InUse" : Str) :: ("Failure" : Str) :: ("Execution" : Str) :: ("Runner" : Str) :: ("Layout" : Str) :: ("Entry" : Str) :: ("Log" : Str) :: ("Outcome" : Str) :: ("Omissions" : Str) :: ("Group" : Str) :: ("Passage" : Str) :: ("Reader" : Str) :: ("Scanner" : Str) :: ("State" : Str) :: ("Variant" : Str) :: []
def fldL : List Str := ("target" : Str) :: ("old_log" : Str) :: ("old_variants" : Str) :: ("now_log" : Str) :: ("now_variants" : Str) :: ("start_cells" : Str) :: ("entry_list" : Str) :: ("variant_list" : Str) :: ("own_book" : Str) :: ("by_cell" : Str) :: ("kept_number" : Str) :: ("kept_program" : Str) :: ("kept_text" : Str) :: ("value" : Str) :: ("position" : Str) :: ("index" : Str) :: ("entry_number" : Str) :: ("name" : Str) :: ("how_many" : Str) :: ("cell" : Str) :: ("moment" : Str) :: ("why" : Str) :: ("base" : Str) :: ("step_limit" : Str) :: ("changed" : Str) :: ("names" : Str) :: ("output" : Str) :: ("seen_cells" : Str) :: ("seen_tables" : Str) :: ("step_total" : Str) :: ("kept_limit" : Str) :: ("token_list" : Str) :: ("statement_total" : Str) :: ("kept_author" : Str) :: ("kept_entries" : Str) :: ("kept_states" : Str) :: ("kept_outcomes" : Str) :: ("kept_reason" : Str) :: ("kept_printed" : Str) :: ("kept_writes" : Str) :: ("kept_reads" : Str) :: ("kept_scans" : Str) :: ("kept_steps" : Str) :: ("own_log" : Str) :: ("own_passage" : Str) :: ("own_difference" : Str) :: ("own_edits" : Str) :: ("members" : Str) :: ("own_inserted" : Str) :: ("own_outcome" : Str) :: ("own_steps" : Str) :: ("own_executions" : Str) :: ("kept_log" : Str) :: ("kept_variants" : Str) :: ("differences" : Str) :: ("class_of" : Str) :: ("groups" : Str) :: ("scanner" : Str) :: ("token_total" : Str) :: ("source" : Str) :: ("place" : Str) :: ("stop" : Str) :: ("held" : Str) :: ("kept_edits" : Str) :: []
def clsN (c : Nat) : Str := clsL.getD c Str.empty
def fldN (f : Nat) : Str := fldL.getD f Str.empty
abbrev NF : Nat := 64
abbrev Sto := List Cell
abbrev Sl := List (Option D)
structure Exn where
  c : Nat
  v : Option D
inductive Res (α : Type) where
  | ok (a : α) (S : Sto) | exc (x : Exn) (S : Sto) | bad
abbrev Ev := Sl → Sto → Res D
abbrev EvB := Sl → Sto → Res Bool
inductive Out where
  | nx (δ : Sl) (S : Sto) | rt (d : D) (S : Sto) | bk (δ : Sl) (S : Sto) | ct (δ : Sl) (S : Sto) | ex (x : Exn) (δ : Sl) (S : Sto) | bad
abbrev EvS := Sl → Sto → Out
def Res.bind {α β : Type} (r : Res α) (f : α → Sto → Res β) : Res β := match r with
  | .ok a S => f a S
  | .exc x S => .exc x S
  | .bad => .bad
@[simp] theorem Res.bind_ok {α β : Type} (a : α) (S : Sto) (f : α → Sto → Res β) : (Res.ok a S).bind f = f a S := rfl
@[simp] theorem Res.bind_exc {α β : Type} (x : Exn) (S : Sto) (f : α → Sto → Res β) : (Res.exc x S : Res α).bind f = .exc x S := rfl
@[simp] theorem Res.bind_bad {α β : Type} (f : α → Sto → Res β) : (Res.bad : Res α).bind f = .bad := rfl

/-- a text by its codes -/
def tx (x : List Nat) : Str := ⟨x.toArray⟩
theorem tx_inj {x y : List Nat} (h : tx x = tx y) : x = y := by
  have h1 : x.toArray = y.toArray := congrArg Str.cps h
  simpa using congrArg Array.toList h1

/-! ### what stands for what -/
/-- a list that is known to the object, or of the written part -/
def SqF (K : PySem.W.Frag) (H : Hp) (a : Addr) (xs : List V) : Prop := (∃ o, H a = some (.frz o (.lst xs))) ∨
    ∃ (o : Obj) (its : Array Value) (n : Nat), K.lookup a = some o ∧ o.cls = .type "list" ∧ o.dict = none ∧ o.data = .seq its n ∧ its.size ≤ sizeLine ∧ Vals xs its.toList
theorem SqF.seq {K : PySem.W.Frag} {H : Hp} {a : Addr} {xs : List V} (h : SqF K H a xs) : SqL K H a xs := h.elim (fun ⟨o, e⟩ => .inl (.inr ⟨o, e⟩)) .inr
/-- an exception that is held as a value: the object at a, its class, its dict -/
def exV (C dx a : Addr) : HO := .ext fun h => ∃ (oe : Obj) (vs : Array Value), h.get? a = some oe ∧ oe.cls = .ref C ∧ oe.dict = some dx ∧ oe.data = .fields vs
inductive RepV (K : PySem.W.Frag) (ρ O : List Addr) (H : Hp) : V → D → Prop where
  | non : RepV K ρ O H .non .non
  | bl (b : Bool) : RepV K ρ O H (.bl b) (.bl b)
  | int (i : Int) : RepV K ρ O H (.int i) (.int i)
  | str (x : List Nat) : RepV K ρ O H (.str (tx x)) (.str x)
  | tup {a : Addr} {vs : List V} {ds : List D} (h : SqT K H a vs) (hl : vs.length = ds.length)
      (hi : ∀ (i : Nat) (v : V) (d : D), vs[i]? = some v → ds[i]? = some d → RepV K ρ O H v d) : RepV K ρ O H (.ref a) (.tup ds)
  | lst {a : Addr} {vs : List V} {ds : List D} (h : H a = some (.lst vs)) (hr : a ∉ ρ) (ho : a ∉ O) (hl : vs.length = ds.length)
      (hi : ∀ (i : Nat) (v : V) (d : D), vs[i]? = some v → ds[i]? = some d → RepV K ρ O H v d) : RepV K ρ O H (.ref a) (.lst ds)
  | loc {n : Nat} {a : Addr} (h : ρ[n]? = some a) : RepV K ρ O H (.ref a) (.loc n)
  | scr {a : Addr} {ns : List Int} (h : SqF K H a (ns.map V.int)) : RepV K ρ O H (.ref a) (.scr ns)
  | exn {a dx : Addr} {c f : Nat} {v : V} {d : D} (h : H a = some (exV (He.ga K (clsN c)) dx a)) (hr : a ∉ ρ) (ho : a ∉ O) (hx : H dx = some (.xd [(fldN f, v)])) (hxr : dx ∉ ρ) (hxo : dx ∉ O) (r : RepV K ρ O H v d) : RepV K ρ O H (.ref a) (.exn c f d)
abbrev RepL (K : PySem.W.Frag) (ρ O : List Addr) (H : Hp) : List V → List D → Prop := Paired (RepV K ρ O H)
section
variable {K : PySem.W.Frag} {ρ ρ' ρ'' O O' : List Addr} {H H' H'' : Hp} {S S' : Sto} {v : V} {d : D} {vs : List V} {ds : List D}
theorem RepL.ix (h : RepL K ρ O H vs ds) : vs.length = ds.length ∧ ∀ (i : Nat) (v : V) (d : D), vs[i]? = some v → ds[i]? = some d → RepV K ρ O H v d := by
  induction h with
  | nil => exact ⟨rfl, fun i v d e => by simp at e⟩
  | cons r _ ih =>
    refine ⟨by simp [ih.1], fun i v d e1 e2 => ?_⟩
    cases i with
    | zero => simp at e1 e2; subst e1; subst e2; exact r
    | succ i => simp at e1 e2; exact ih.2 i v d e1 e2
theorem RepL.of_ix : ∀ {vs : List V} {ds : List D}, vs.length = ds.length → (∀ (i : Nat) (v : V) (d : D), vs[i]? = some v → ds[i]? = some d → RepV K ρ O H v d) → RepL K ρ O H vs ds
  | [], [], _, _ => .nil
  | v :: vs, d :: ds, hl, h => .cons (h 0 v d rfl rfl) (RepL.of_ix (by simpa using hl) fun i v' d' e1 e2 => h (i + 1) v' d' (by simpa using e1) (by simpa using e2))
theorem RepV.tupL {a : Addr} (h : SqT K H a vs) (r : RepL K ρ O H vs ds) : RepV K ρ O H (.ref a) (.tup ds) := .tup h r.ix.1 r.ix.2
theorem RepV.lstL {a : Addr} (h : H a = some (.lst vs)) (hr : a ∉ ρ) (ho : a ∉ O) (r : RepL K ρ O H vs ds) : RepV K ρ O H (.ref a) (.lst ds) := .lst h hr ho r.ix.1 r.ix.2
theorem RepV.of_tup {x : V} (r : RepV K ρ O H x (.tup ds)) : ∃ a vs, x = .ref a ∧ SqT K H a vs ∧ RepL K ρ O H vs ds := by
  cases r with
  | tup h hl hi => exact ⟨_, _, rfl, h, .of_ix hl hi⟩
theorem RepV.of_lst {x : V} (r : RepV K ρ O H x (.lst ds)) : ∃ a vs, x = .ref a ∧ H a = some (.lst vs) ∧ a ∉ ρ ∧ a ∉ O ∧ RepL K ρ O H vs ds := by
  cases r with
  | lst h hr ho hl hi => exact ⟨_, _, rfl, h, hr, ho, .of_ix hl hi⟩
theorem RepV.of_loc {x : V} {n : Nat} (r : RepV K ρ O H x (.loc n)) : ∃ a, x = .ref a ∧ ρ[n]? = some a := by
  cases r with
  | loc h => exact ⟨_, rfl, h⟩

/-- a step: what is not in the store stays, what is new in it was free -/
structure Stp (ρ : List Addr) (H : Hp) (ρ' : List Addr) (H' : Hp) : Prop where
  pre : ∃ μ, ρ' = ρ ++ μ
  old : ∀ a o, H a = some o → a ∉ ρ → H' a = some o
  new : ∀ a ∈ ρ', a ∉ ρ → H a = none
theorem Stp.refl (ρ : List Addr) (H : Hp) : Stp ρ H ρ H := ⟨⟨[], by simp⟩, fun _ _ e _ => e, fun _ h n => absurd h n⟩
theorem Stp.trans (a : Stp ρ H ρ' H') (b : Stp ρ' H' ρ'' H'') : Stp ρ H ρ'' H'' := by
  obtain ⟨⟨m1, e1⟩, o1, n1⟩ := a
  obtain ⟨⟨m2, e2⟩, o2, n2⟩ := b
  have k : ∀ b o, H b = some o → b ∉ ρ → b ∉ ρ' := fun b o e n h => by rw [n1 b h n] at e; cases e
  refine ⟨⟨m1 ++ m2, by rw [e2, e1, List.append_assoc]⟩, fun b o e n => o2 b o (o1 b o e n) (k b o e n), fun b h n => ?_⟩
  by_cases hb : b ∈ ρ'
  · exact n1 b hb n
  · cases q : H b with
    | none => rfl
    | some o =>
      have := o1 b o q n
      rw [n2 b h hb] at this; cases this
theorem Stp.sub (s : Stp ρ H ρ' H') {a : Addr} (h : a ∈ ρ) : a ∈ ρ' := by
  obtain ⟨⟨m, e⟩, _, _⟩ := s
  rw [e]; exact List.mem_append_left _ h
theorem Stp.get (s : Stp ρ H ρ' H') {n : Nat} {a : Addr} (h : ρ[n]? = some a) : ρ'[n]? = some a := by
  obtain ⟨⟨m, e⟩, _, _⟩ := s
  rw [e, List.getElem?_append_left (List.getElem?_eq_some_iff.mp h).1]; exact h
theorem Stp.notin (s : Stp ρ H ρ' H') {a : Addr} {o : HO} (h : H a = some o) (n : a ∉ ρ) : a ∉ ρ' := fun q => by
  rw [s.new a q n] at h; cases h
theorem Stp.rd (s : Stp ρ H ρ' H') {a : Addr} {u : HO} (h : Rd H a u) (n : a ∉ ρ) : Rd H' a u := by
  rcases h with h | ⟨o, h⟩
  · exact .inl (s.old a _ h n)
  · exact .inr ⟨o, s.old a _ h n⟩
theorem rd_some {a : Addr} {u : HO} (h : Rd H a u) : ∃ o, H a = some o := by
  rcases h with h | ⟨o, h⟩
  · exact ⟨_, h⟩
  · exact ⟨_, h⟩

/-! ### the store -/
/-- a key -/
def keyD : D → Option Key
  | .int i => some (.inl i)
  | .str x => some (.inr (tx x))
  | _ => none
def keysD : List D → Option (List Key)
  | [] => some []
  | d :: ds => match keyD d, keysD ds with
    | some k, some ks => some (k :: ks)
    | _, _ => none
def keyT : D → Option (List Key)
  | .tup ds => keysD ds
  | _ => none
abbrev EntK (R : V → D → Prop) : List (Key × V) → List (D × D) → Prop := Paired fun p q => keyD q.1 = some p.1 ∧ R p.2 q.2
abbrev EntT (R : V → D → Prop) : List (List Key × V) → List (D × D) → Prop := Paired fun p q => keyT q.1 = some p.1 ∧ R p.2 q.2
abbrev EntF (R : V → D → Prop) : List (Str × V) → List (Nat × D) → Prop := Paired fun p q => p.1 = fldN q.1 ∧ q.1 < NF ∧ R p.2 q.2
theorem paired_imp {α β : Type} {R R' : α → β → Prop} (h : ∀ x y, R x y → R' x y) {xs : List α} {ys : List β} (p : Paired R xs ys) : Paired R' xs ys := by
  induction p with
  | nil => exact .nil
  | cons r _ ih => exact .cons (h _ _ r) ih
inductive CellR (K : PySem.W.Frag) (ρ O : List Addr) (H : Hp) : Addr → Cell → Prop where
  | lst {a : Addr} {vs : List V} {ds : List D} (h : H a = some (.lst vs)) (r : RepL K ρ O H vs ds) : CellR K ρ O H a (.lst ds)
  | dK {a : Addr} {es : List (Key × V)} {kvs : List (D × D)} (h : H a = some (.dK es)) (r : EntK (RepV K ρ O H) es kvs) : CellR K ρ O H a (.dct false false kvs)
  | dT {a : Addr} {es : List (List Key × V)} {kvs : List (D × D)} (h : H a = some (.dT es)) (r : EntT (RepV K ρ O H) es kvs) : CellR K ρ O H a (.dct false true kvs)
  | fK {a : Addr} {o : Obj} {es : List (Key × V)} {kvs : List (D × D)} (h : H a = some (.frz o (.dK es))) (r : EntK (RepV K ρ O H) es kvs) : CellR K ρ O H a (.dct true false kvs)
  | fT {a : Addr} {o : Obj} {es : List (List Key × V)} {kvs : List (D × D)} (h : H a = some (.frz o (.dT es))) (r : EntT (RepV K ρ O H) es kvs) : CellR K ρ O H a (.dct true true kvs)
  | obj {a dx : Addr} {c : Nat} {fs : List (Str × V)} {gs : List (Nat × D)} (h : H a = some (.ins (He.ga K (clsN c)) dx fs)) (r : EntF (RepV K ρ O H) fs gs) : CellR K ρ O H a (.obj c gs)
theorem CellR.map {O' : List Addr} {a : Addr} {c : Cell} (f : ∀ v d, RepV K ρ O H v d → RepV K ρ' O' H' v d) (h : H' a = H a) (r : CellR K ρ O H a c) : CellR K ρ' O' H' a c := by
  cases r with
  | lst e r => exact .lst (h.trans e) (paired_imp f r)
  | dK e r => exact .dK (h.trans e) (paired_imp (fun _ _ q => ⟨q.1, f _ _ q.2⟩) r)
  | dT e r => exact .dT (h.trans e) (paired_imp (fun _ _ q => ⟨q.1, f _ _ q.2⟩) r)
  | fK e r => exact .fK (h.trans e) (paired_imp (fun _ _ q => ⟨q.1, f _ _ q.2⟩) r)
  | fT e r => exact .fT (h.trans e) (paired_imp (fun _ _ q => ⟨q.1, f _ _ q.2⟩) r)
  | obj e r => exact .obj (h.trans e) (paired_imp (fun _ _ q => ⟨q.1, q.2.1, f _ _ q.2.2⟩) r)
/-- what stands at a place of the store -/
def Mu : Option HO → Prop
  | some (.lst _) => True
  | some (.dK _) => True
  | some (.dT _) => True
  | some (.ins _ _ _) => True
  | some (.frz _ (.dK _)) => True
  | some (.frz _ (.dT _)) => True
  | _ => False
/-- S stands at ρ; O: objects that are in hand, of which no value speaks -/
structure RelS (K : PySem.W.Frag) (ρ O : List Addr) (H : Hp) (S : Sto) : Prop where
  len : ρ.length = S.length
  nd : ρ.Nodup
  cell : ∀ (n : Nat) (a : Addr) (c : Cell), ρ[n]? = some a → S[n]? = some c → CellR K ρ O H a c
  ho : ∀ a ∈ O, H a ≠ none ∧ a ∉ ρ
theorem RelS.at (R : RelS K ρ O H S) {a : Addr} (h : a ∈ ρ) : ∃ (n : Nat) (c : Cell), ρ[n]? = some a ∧ S[n]? = some c := by
  obtain ⟨n, hn⟩ := List.getElem?_of_mem h
  have hl : n < S.length := by rw [← R.len]; exact (List.getElem?_eq_some_iff.mp hn).1
  exact ⟨n, S[n], hn, List.getElem?_eq_getElem hl⟩
theorem CellR.mut {a : Addr} {c : Cell} (r : CellR K ρ O H a c) : Mu (H a) := by
  cases r with
  | lst h _ => rw [h]; trivial
  | dK h _ => rw [h]; trivial
  | dT h _ => rw [h]; trivial
  | fK h _ => rw [h]; trivial
  | fT h _ => rw [h]; trivial
  | obj h _ => rw [h]; trivial
theorem RelS.mut (R : RelS K ρ O H S) {a : Addr} (h : a ∈ ρ) : Mu (H a) := by
  obtain ⟨n, c, h1, h2⟩ := R.at h
  exact (R.cell n a c h1 h2).mut
abbrev MutL (ρ : List Addr) (H : Hp) : Prop := ∀ a ∈ ρ, Mu (H a)
theorem RelS.there (R : RelS K ρ O H S) {a : Addr} (h : a ∈ ρ) : H a ≠ none := fun e => by
  have := R.mut h
  rw [e] at this; exact this
theorem RelS.free (R : RelS K ρ O H S) {p : Addr} (np : H p = none) : p ∉ ρ ∧ p ∉ O :=
  ⟨fun h => R.there h np, fun h => (R.ho p h).1 np⟩
theorem MutL.notup (R : MutL ρ H) {a : Addr} {xs : List V} (h : H a = some (.tup xs)) : a ∉ ρ := fun q => by
  have := R a q
  rw [h] at this; exact this
theorem MutL.nofrzT (R : MutL ρ H) {a : Addr} {o : Obj} {u : List V} (h : H a = some (.frz o (.tup u))) : a ∉ ρ := fun q => by
  have := R a q
  rw [h] at this; exact this
theorem MutL.nofrzL (R : MutL ρ H) {a : Addr} {o : Obj} {u : List V} (h : H a = some (.frz o (.lst u))) : a ∉ ρ := fun q => by
  have := R a q
  rw [h] at this; exact this
theorem SqT.step (R : MutL ρ H) (s : Stp ρ H ρ' H') {a : Addr} (h : SqT K H a vs) : SqT K H' a vs := by
  rcases h with h | h
  · rcases h with h | ⟨o, h⟩
    · exact .inl (.inl (s.old a _ h (R.notup h)))
    · exact .inl (.inr ⟨o, s.old a _ h (R.nofrzT h)⟩)
  · exact .inr h
/-- a value stays what it is -/
theorem RepV.monoM (R : MutL ρ H) (s : Stp ρ H ρ' H') (r : RepV K ρ O H v d) : RepV K ρ' O H' v d := by
  induction r with
  | non => exact .non
  | bl b => exact .bl b
  | int i => exact .int i
  | str x => exact .str x
  | tup h hl hi ih => exact .tup (SqT.step R s h) hl ih
  | lst h hr ho hl hi ih => exact .lst (s.old _ _ h hr) (s.notin h hr) ho hl ih
  | loc h => exact .loc (s.get h)
  | scr h => exact .scr (h.elim (fun ⟨o, e⟩ => .inl ⟨o, s.old _ _ e (R.nofrzL e)⟩) .inr)
  | exn h hr ho hx hxr hxo _ ih => exact .exn (s.old _ _ h hr) (s.notin h hr) ho (s.old _ _ hx hxr) (s.notin hx hxr) hxo ih
theorem RepV.mono (R : RelS K ρ O H S) (s : Stp ρ H ρ' H') (r : RepV K ρ O H v d) : RepV K ρ' O H' v d := r.monoM (fun _ h => R.mut h) s
theorem RepL.monoM (R : MutL ρ H) (s : Stp ρ H ρ' H') (r : RepL K ρ O H vs ds) : RepL K ρ' O H' vs ds := by
  induction r with
  | nil => exact .nil
  | cons r _ ih => exact .cons (r.monoM R s) ih
theorem RepL.mono (R : RelS K ρ O H S) (s : Stp ρ H ρ' H') (r : RepL K ρ O H vs ds) : RepL K ρ' O H' vs ds := r.monoM (fun _ h => R.mut h) s
/-- an object in hand is let go: it is spoken of from now on -/
theorem RepV.unbar (h : ∀ a ∈ O', a ∈ O) (r : RepV K ρ O H v d) : RepV K ρ O' H v d := by
  induction r with
  | non => exact .non
  | bl b => exact .bl b
  | int i => exact .int i
  | str x => exact .str x
  | tup h hl hi ih => exact .tup h hl ih
  | lst h1 hr ho hl hi ih => exact .lst h1 hr (fun q => ho (h _ q)) hl ih
  | loc h => exact .loc h
  | scr h => exact .scr h
  | exn h1 hr ho hx hxr hxo _ ih => exact .exn h1 hr (fun q => ho (h _ q)) hx hxr (fun q => hxo (h _ q)) ih
theorem RepL.unbar (h : ∀ a ∈ O', a ∈ O) (r : RepL K ρ O H vs ds) : RepL K ρ O' H vs ds := by
  induction r with
  | nil => exact .nil
  | cons r _ ih => exact .cons (r.unbar h) ih
end
end Mp

/-! Mp, part 2: the judgements, names, constants, displays, operators. -/
namespace Mp
open PySem PySem.Spec L2
open PyProof.Rows hiding St

/-- exception classes: the class's address, its field's name -/
structure Hnd where
  i : Nat
  a : Addr
  dd : Addr
  f : Str
  v : V
  d : D
/-- .. and in an except suite: the slot, the exception, its dict, its field -/
structure Glo where
  ca : Nat → Addr
  fld : Nat → Str
  am : Option Hnd
abbrev Glo.off (G : Glo) : Prop := G.am = none
def HndR (K : PySem.W.Frag) (ρ O : List Addr) (H : Hp) (m : Hnd) : Prop := H m.dd = some (.xd [(m.f, m.v)]) ∧ RepV K ρ O H m.v m.d
structure RelA (K : PySem.W.Frag) (G : Glo) (ρ O : List Addr) (σ : St) (H : Hp) (δ : Sl) (S : Sto) : Prop where
  st : RelS K ρ O H S
  len : σ.length = δ.length
  slot : ∀ (i : Nat) (d : D), δ[i]? = some (some d) → ∃ v, σ[i]? = some (some v) ∧ RepV K ρ O H v d
  hs : ∀ m, G.am = some m → δ[m.i]? = some none → σ[m.i]? = some (some (.ref m.a))
  hx : ∀ m, G.am = some m → HndR K ρ O H m
def ExcR (K : PySem.W.Frag) (G : Glo) (ρ O : List Addr) (H : Hp) (cls : Value) (dd : Option Addr) (x : Exn) : Prop :=
  cls = .ref (G.ca x.c) ∧ match x.v with
    | none => dd = none
    | some d => ∃ e v, dd = some e ∧ H e = some (.xd [(G.fld x.c, v)]) ∧ RepV K ρ O H v d

section
variable {K : PySem.W.Frag} {G : Glo} {ρ ρ' ρ'' O O' : List Addr} {H H' H'' : Hp} {S S' : Sto} {v : V} {d : D} {vs : List V} {ds : List D} {σ : St} {δ : Sl}
theorem RelS.nox (R : RelS K ρ O H S) {a : Addr} {fs : List (Str × V)} (h : H a = some (.xd fs)) : a ∉ ρ := fun q => by
  have := R.mut q
  rw [h] at this; exact this
theorem ExcR.mono {G : Glo} {cls : Value} {dd : Option Addr} {x : Exn} (R : RelS K ρ O H S) (s : Stp ρ H ρ' H') (h : ExcR K G ρ O H cls dd x) : ExcR K G ρ' O H' cls dd x := by
  obtain ⟨h1, h2⟩ := h
  refine ⟨h1, ?_⟩
  cases e : x.v with
  | none => rw [e] at h2; exact h2
  | some d =>
    rw [e] at h2
    obtain ⟨a, v, h3, h4, h5⟩ := h2
    exact ⟨a, v, h3, s.old a _ h4 (R.nox h4), h5.mono R s⟩
theorem RelA.slots (A : RelA K G ρ O σ H δ S) (s : Stp ρ H ρ' H') (R' : RelS K ρ' O H' S') : RelA K G ρ' O σ H' δ S' :=
  ⟨R', A.len, fun i d e => let ⟨v, h1, h2⟩ := A.slot i d e; ⟨v, h1, h2.mono A.st s⟩, A.hs, fun m e => let h := A.hx m e; ⟨s.old _ _ h.1 (A.st.nox h.1), h.2.mono A.st s⟩⟩
/-- a new object that no value speaks of -/
theorem stp_new {p : Addr} {o : HO} (np : H p = none) : Stp ρ H ρ (upd H p o) :=
  ⟨⟨[], by simp⟩, fun a u e _ => by rw [upd_ne (ne_of_none e np)]; exact e, fun _ h n => absurd h n⟩
theorem CellR.monoM {a : Addr} {c : Cell} (R : MutL ρ H) (s : Stp ρ H ρ' H') (h : H' a = H a) (r : CellR K ρ O H a c) : CellR K ρ' O H' a c := by
  exact r.map (fun _ _ q => q.monoM R s) h
theorem RelS.new (R : RelS K ρ O H S) {p : Addr} {o : HO} (np : H p = none) : RelS K ρ O (upd H p o) S := by
  refine ⟨R.len, R.nd, fun n a c h1 h2 => ?_, fun a h => ?_⟩
  · have hne : a ≠ p := fun e => (R.free np).1 (e ▸ List.mem_of_getElem? h1)
    exact (R.cell n a c h1 h2).monoM (fun _ h => R.mut h) (stp_new np) (upd_ne hne)
  · have hne : a ≠ p := fun e => (R.free np).2 (e ▸ h)
    exact ⟨by rw [upd_ne hne]; exact (R.ho a h).1, (R.ho a h).2⟩
/-- .. taken in hand -/
theorem RepV.bar {p : Addr} (hp : H p = none) (r : RepV K ρ O H v d) : RepV K ρ (p :: O) H v d := by
  induction r with
  | non => exact .non
  | bl b => exact .bl b
  | int i => exact .int i
  | str x => exact .str x
  | tup h hl hi ih => exact .tup h hl ih
  | lst h hr ho hl hi ih =>
    refine .lst h hr (fun q => ?_) hl ih
    rcases List.mem_cons.mp q with q | q
    · rw [q, hp] at h; cases h
    · exact ho q
  | loc h => exact .loc h
  | scr h => exact .scr h
  | exn h hr ho hx hxr hxo _ ih =>
    refine .exn h hr (fun q => ?_) hx hxr (fun q => ?_) ih
    · rcases List.mem_cons.mp q with q | q
      · rw [q, hp] at h; cases h
      · exact ho q
    · rcases List.mem_cons.mp q with q | q
      · rw [q, hp] at hx; cases hx
      · exact hxo q
theorem RepL.bar {p : Addr} (hp : H p = none) (r : RepL K ρ O H vs ds) : RepL K ρ (p :: O) H vs ds := by
  induction r with
  | nil => exact .nil
  | cons r _ ih => exact .cons (r.bar hp) ih
theorem CellR.bar {p a : Addr} {c : Cell} (hp : H p = none) (r : CellR K ρ O H a c) : CellR K ρ (p :: O) H a c := by
  exact r.map (fun _ _ q => q.bar hp) rfl
theorem CellR.unbar {a : Addr} {c : Cell} (h : ∀ a ∈ O', a ∈ O) (r : CellR K ρ O H a c) : CellR K ρ O' H a c := by
  exact r.map (fun _ _ q => q.unbar h) rfl
theorem RelS.barred (R : RelS K ρ O H S) {p : Addr} {o : HO} (np : H p = none) : RelS K ρ (p :: O) (upd H p o) S := by
  refine ⟨R.len, R.nd, fun n a c h1 h2 => ?_, fun a h => ?_⟩
  · have hne : a ≠ p := fun e => (R.free np).1 (e ▸ List.mem_of_getElem? h1)
    exact ((R.cell n a c h1 h2).bar np).monoM (fun _ h => R.mut h) (stp_new np) (upd_ne hne)
  · rcases List.mem_cons.mp h with h | h
    · subst h; exact ⟨by rw [upd_same]; exact fun z => (by cases z), (R.free np).1⟩
    · exact (R.new np).ho a h
theorem RelS.unbar (R : RelS K ρ O H S) (h : ∀ a ∈ O', a ∈ O) : RelS K ρ O' H S :=
  ⟨R.len, R.nd, fun n a c h1 h2 => (R.cell n a c h1 h2).unbar h, fun a q => R.ho a (h a q)⟩
theorem RelA.unbar (A : RelA K G ρ O σ H δ S) (h : ∀ a ∈ O', a ∈ O) : RelA K G ρ O' σ H δ S :=
  ⟨A.st.unbar h, A.len, fun i d e => let ⟨v, h1, h2⟩ := A.slot i d e; ⟨v, h1, h2.unbar h⟩, A.hs, fun m e => let q := A.hx m e; ⟨q.1, q.2.unbar h⟩⟩
theorem RelA.barred (A : RelA K G ρ O σ H δ S) {p : Addr} {o : HO} (np : H p = none) : RelA K G ρ (p :: O) σ (upd H p o) δ S :=
  ⟨A.st.barred np, A.len, fun i d e => let ⟨v, h1, h2⟩ := A.slot i d e; ⟨v, h1, (h2.bar np).monoM (fun _ h => A.st.mut h) (stp_new np)⟩, A.hs, fun m e => let q := A.hx m e; ⟨by rw [upd_ne (ne_of_none q.1 np)]; exact q.1, (q.2.bar np).monoM (fun _ h => A.st.mut h) (stp_new np)⟩⟩
/-- an object in hand goes into the store -/
theorem RepV.shift {p : Addr} (r : RepV K ρ (p :: O) H v d) : RepV K (ρ ++ [p]) O H v d := by
  induction r with
  | non => exact .non
  | bl b => exact .bl b
  | int i => exact .int i
  | str x => exact .str x
  | tup h hl hi ih => exact .tup h hl ih
  | lst h hr ho hl hi ih =>
    refine .lst h (fun q => ?_) (fun q => ho (List.mem_cons_of_mem _ q)) hl ih
    rcases List.mem_append.mp q with q | q
    · exact hr q
    · exact ho (by rw [List.mem_singleton.mp q]; exact List.mem_cons_self)
  | loc h => exact .loc (by rw [List.getElem?_append_left (List.getElem?_eq_some_iff.mp h).1]; exact h)
  | scr h => exact .scr h
  | exn h hr ho hx hxr hxo _ ih =>
    refine .exn h (fun q => ?_) (fun q => ho (List.mem_cons_of_mem _ q)) hx (fun q => ?_) (fun q => hxo (List.mem_cons_of_mem _ q)) ih
    · rcases List.mem_append.mp q with q | q
      · exact hr q
      · exact ho (by rw [List.mem_singleton.mp q]; exact List.mem_cons_self)
    · rcases List.mem_append.mp q with q | q
      · exact hxr q
      · exact hxo (by rw [List.mem_singleton.mp q]; exact List.mem_cons_self)
theorem RepL.shift {p : Addr} (r : RepL K ρ (p :: O) H vs ds) : RepL K (ρ ++ [p]) O H vs ds := by
  induction r with
  | nil => exact .nil
  | cons r _ ih => exact .cons r.shift ih
theorem CellR.shift {p a : Addr} {c : Cell} (r : CellR K ρ (p :: O) H a c) : CellR K (ρ ++ [p]) O H a c := by
  exact r.map (fun _ _ q => q.shift) rfl
theorem RelS.shift {p : Addr} {c : Cell} (R : RelS K ρ (p :: O) H S) (hc : CellR K (ρ ++ [p]) O H p c) (hO : p ∉ O) : RelS K (ρ ++ [p]) O H (S ++ [c]) := by
  refine ⟨by simp [R.len], ?_, fun n a c' h1 h2 => ?_, fun a h => ⟨(R.ho a (List.mem_cons_of_mem _ h)).1, fun q => ?_⟩⟩
  · rw [List.nodup_append]
    exact ⟨R.nd, by simp, fun a h b hb => by
      rw [List.mem_singleton.mp hb]
      exact fun e => (R.ho p List.mem_cons_self).2 (e ▸ h)⟩
  · by_cases hn : n < ρ.length
    · rw [List.getElem?_append_left hn] at h1
      rw [List.getElem?_append_left (by rw [← R.len]; exact hn)] at h2
      exact (R.cell n a c' h1 h2).shift
    · have e : n = ρ.length := by
        have := (List.getElem?_eq_some_iff.mp h1).1
        simp at this; omega
      subst e
      rw [List.getElem?_append_right (Nat.le_refl _)] at h1
      rw [List.getElem?_append_right (by rw [R.len]; exact Nat.le_refl _)] at h2
      simp [R.len] at h1 h2
      subst h1; subst h2; exact hc
  · rcases List.mem_append.mp q with q | q
    · exact (R.ho a (List.mem_cons_of_mem _ h)).2 q
    · exact hO (by rw [← List.mem_singleton.mp q]; exact h)
theorem RelA.shift {p : Addr} {c : Cell} (A : RelA K G ρ (p :: O) σ H δ S) (hc : CellR K (ρ ++ [p]) O H p c) (hO : p ∉ O) : RelA K G (ρ ++ [p]) O σ H δ (S ++ [c]) :=
  ⟨A.st.shift hc hO, A.len, fun i d e => let ⟨v, h1, h2⟩ := A.slot i d e; ⟨v, h1, h2.shift⟩, A.hs, fun m e => let q := A.hx m e; ⟨q.1, q.2.shift⟩⟩
theorem stp_shift {p : Addr} (s : Stp ρ H ρ' H') (np : H p = none) : Stp ρ H (ρ' ++ [p]) H' := by
  obtain ⟨⟨m, e⟩, o, n⟩ := s
  refine ⟨⟨m ++ [p], by rw [e, List.append_assoc]⟩, o, fun a h na => ?_⟩
  rcases List.mem_append.mp h with h | h
  · exact n a h na
  · rw [List.mem_singleton.mp h]; exact np
/-- a changeable object is changed -/
theorem stp_put {n : Nat} {p : Addr} {o : HO} (hn : ρ[n]? = some p) : Stp ρ H ρ (upd H p o) :=
  ⟨⟨[], by simp⟩, fun a u e na => by
    rw [upd_ne (fun z => na (by rw [z]; exact List.mem_of_getElem? hn))]; exact e, fun _ h n => absurd h n⟩
theorem RelS.put {n : Nat} {p : Addr} {o : HO} {c : Cell} (R : RelS K ρ O H S) (hn : ρ[n]? = some p) (hc : CellR K ρ O (upd H p o) p c) : RelS K ρ O (upd H p o) (S.set n c) := by
  have hp : p ∈ ρ := List.mem_of_getElem? hn
  refine ⟨by simp [R.len], R.nd, fun m a c' h1 h2 => ?_, fun a h => ?_⟩
  · by_cases hm : m = n
    · subst hm
      rw [hn] at h1; cases h1
      rw [List.getElem?_set_self (by rw [← R.len]; exact (List.getElem?_eq_some_iff.mp hn).1)] at h2
      cases h2; exact hc
    · rw [List.getElem?_set_ne (Ne.symm hm)] at h2
      have hne : a ≠ p := fun e => hm (by
        subst e
        obtain ⟨l1, e1⟩ := List.getElem?_eq_some_iff.mp h1
        obtain ⟨l2, e2⟩ := List.getElem?_eq_some_iff.mp hn
        exact (List.getElem_inj R.nd).mp (e1.trans e2.symm))
      exact (R.cell m a c' h1 h2).monoM (fun _ h => R.mut h) (stp_put hn) (upd_ne hne)
  · have hne : a ≠ p := fun e => (R.ho a h).2 (e ▸ hp)
    exact ⟨by rw [upd_ne hne]; exact (R.ho a h).1, (R.ho a h).2⟩
theorem RelA.of {ρ' : List Addr} (A : RelA K G ρ O σ H δ S) (s : Stp ρ H ρ' H') (R : RelS K ρ' O H' S') : RelA K G ρ' O σ H' δ S' := A.slots s R
end

/-! ### the judgements -/
def Res.To {α : Type} (r : Res α) (P : α → Sto → Prop) (E : Exn → Sto → Prop) : Prop := match r with
  | .ok a S => P a S
  | .exc x S => E x S
  | .bad => False
theorem Res.To.imp {α : Type} {r : Res α} {P P' : α → Sto → Prop} {E E' : Exn → Sto → Prop} (h : r.To P E) (hp : ∀ a S, P a S → P' a S) (he : ∀ x S, E x S → E' x S) : r.To P' E' := by
  cases r with
  | ok a S => exact hp a S h
  | exc x S => exact he x S h
  | bad => exact h
theorem Res.To.bind {α β : Type} {r : Res α} {f : α → Sto → Res β} {P : β → Sto → Prop} {E : Exn → Sto → Prop} (h : (r.bind f).To P E) : r.To (fun a S => (f a S).To P E) E := by
  cases r with
  | ok a S => exact h
  | exc x S => exact h
  | bad => exact h
/-- what is wanted of an exception, from the state (ρ O σ H δ) on -/
def PX (K : PySem.W.Frag) (G : Glo) (W : WX) (ρ O : List Addr) (σ : St) (H : Hp) (δ : Sl) (x : Exn) (S' : Sto) : Prop :=
  ∀ ρ' cls dd H', Stp ρ H ρ' H' → RelA K G ρ' O σ H' δ S' → ExcR K G ρ' O H' cls dd x → W cls dd σ H'
theorem PX.mono {K : PySem.W.Frag} {G : Glo} {W : WX} {ρ ρ' O : List Addr} {σ : St} {H H' : Hp} {δ : Sl} {x : Exn} {S : Sto} (h : PX K G W ρ O σ H δ x S) (s : Stp ρ H ρ' H') : PX K G W ρ' O σ H' δ x S :=
  fun ρ2 cls dd H2 s2 A X => h ρ2 cls dd H2 (s.trans s2) A X
def PV (K : PySem.W.Frag) (G : Glo) (ρ O : List Addr) (σ : St) (H : Hp) (δ : Sl) (Q : VK) (d : D) (S' : Sto) : Prop :=
  ∀ ρ' v H', Stp ρ H ρ' H' → RelA K G ρ' O σ H' δ S' → RepV K ρ' O H' v d → Q v H'
def Post (K : PySem.W.Frag) (G : Glo) (W : WX) (ev : Ev) : TE := fun σ H Q => ∃ ρ O δ S, RelA K G ρ O σ H δ S ∧ (ev δ S).To (PV K G ρ O σ H δ Q) (PX K G W ρ O σ H δ)
def PT' (K : PySem.W.Frag) (G : Glo) (ρ O : List Addr) (σ : St) (H : Hp) (δ : Sl) (Q : Bool → Hp → Prop) (b : Bool) (S' : Sto) : Prop :=
  ∀ ρ' H', Stp ρ H ρ' H' → RelA K G ρ' O σ H' δ S' → Q b H'
def PostT (K : PySem.W.Frag) (G : Glo) (W : WX) (ev : EvB) : TT := fun σ H Q => ∃ ρ O δ S, RelA K G ρ O σ H δ S ∧ (ev δ S).To (PT' K G ρ O σ H δ Q) (PX K G W ρ O σ H δ)
/-- a list just made, that nobody else has -/
def PF (K : PySem.W.Frag) (G : Glo) (ρ O : List Addr) (σ : St) (H : Hp) (δ : Sl) (Q : VK) (ds : List D) (S' : Sto) : Prop :=
  ∀ ρ' a vs H', Stp ρ H ρ' H' → RelA K G ρ' (a :: O) σ H' δ S' → H a = none → a ∉ O → H' a = some (.lst vs) → RepL K ρ' (a :: O) H' vs ds → Q (.ref a) H'
def PostF (K : PySem.W.Frag) (G : Glo) (W : WX) (ev : Sl → Sto → Res (List D)) : TE := fun σ H Q => ∃ ρ O δ S, RelA K G ρ O σ H δ S ∧ (ev δ S).To (PF K G ρ O σ H δ Q) (PX K G W ρ O σ H δ)
def PL (K : PySem.W.Frag) (G : Glo) (ρ O : List Addr) (σ : St) (H : Hp) (δ : Sl) (Q : List V → Hp → Prop) (ds : List D) (S' : Sto) : Prop :=
  ∀ ρ' vs H', Stp ρ H ρ' H' → RelA K G ρ' O σ H' δ S' → RepL K ρ' O H' vs ds → Q vs H'
def PostA (K : PySem.W.Frag) (G : Glo) (W : WX) (ev : Sl → Sto → Res (List D)) : TA := fun σ H Q => ∃ ρ O δ S, RelA K G ρ O σ H δ S ∧ (ev δ S).To (PL K G ρ O σ H δ Q) (PX K G W ρ O σ H δ)
def Out.To (r : Out) (P : Sl → Sto → Prop) (R : D → Sto → Prop) (B C : Sl → Sto → Prop) (E : Exn → Sl → Sto → Prop) : Prop := match r with
  | .nx δ S => P δ S
  | .rt d S => R d S
  | .bk δ S => B δ S
  | .ct δ S => C δ S
  | .ex x δ S => E x δ S
  | .bad => False
def PN (K : PySem.W.Frag) (G : Glo) (ρ O : List Addr) (H : Hp) (Q : St → Hp → Prop) (δ' : Sl) (S' : Sto) : Prop :=
  ∀ ρ' σ' H', Stp ρ H ρ' H' → RelA K G ρ' O σ' H' δ' S' → Q σ' H'
def PR (K : PySem.W.Frag) (ρ O : List Addr) (H : Hp) (Q : VK) (d : D) (S' : Sto) : Prop :=
  ∀ ρ' v H', Stp ρ H ρ' H' → RelS K ρ' O H' S' → RepV K ρ' O H' v d → Q v H'
def PE' (K : PySem.W.Frag) (G : Glo) (W : WX) (ρ O : List Addr) (H : Hp) (x : Exn) (δ' : Sl) (S' : Sto) : Prop :=
  ∀ ρ' σ' cls dd H', Stp ρ H ρ' H' → RelA K G ρ' O σ' H' δ' S' → ExcR K G ρ' O H' cls dd x → W cls dd σ' H'
def PostS (K : PySem.W.Frag) (G : Glo) (W : WX) (ev : EvS) : TS := fun D σ H => ∃ ρ O δ S, RelA K G ρ O σ H δ S ∧
  (ev δ S).To (PN K G ρ O H D.nx) (PR K ρ O H D.rt) (PN K G ρ O H D.bk) (PN K G ρ O H D.ct) (PE' K G W ρ O H)

abbrev SE (X : Cx) (G : Glo) (W : WX) (e : Expr) (ev : Ev) : Prop := PE X e (Post X.K G W ev)
abbrev SF (X : Cx) (G : Glo) (W : WX) (e : Expr) (ev : Sl → Sto → Res (List D)) : Prop := PE X e (PostF X.K G W ev)
abbrev ST (X : Cx) (G : Glo) (W : WX) (e : Expr) (ev : EvB) : Prop := PT X e (PostT X.K G W ev)
abbrev SA (X : Cx) (G : Glo) (W : WX) (es : List Expr) (ev : Sl → Sto → Res (List D)) : Prop := PA X es (PostA X.K G W ev)
abbrev SS (X : Cx) (G : Glo) (W : WX) (s : Stmt) (ev : EvS) : Prop := PS X s (PostS X.K G W ev)
abbrev SSs (X : Cx) (G : Glo) (W : WX) (s : List Stmt) (ev : EvS) : Prop := PSs X s (PostS X.K G W ev)

theorem _root_.L2.PE.conseq {X : Cx} {e : Expr} {t u : TE} (h : PE X e t) (c : ∀ σ H Q, u σ H Q → t σ H Q) : PE X e u := ⟨fun pins s σ H Q I q => h.run pins s σ H Q I (c σ H Q q)⟩
theorem _root_.L2.PT.conseq {X : Cx} {e : Expr} {t u : TT} (h : PT X e t) (c : ∀ σ H Q, u σ H Q → t σ H Q) : PT X e u := ⟨fun pins s σ H Q I q => h.run pins s σ H Q I (c σ H Q q)⟩
theorem _root_.L2.PA.conseq {X : Cx} {e : List Expr} {t u : TA} (h : PA X e t) (c : ∀ σ H Q, u σ H Q → t σ H Q) : PA X e u := ⟨fun pos pins s σ H Q I q => h.run pos pins s σ H Q I (c σ H Q q)⟩
theorem _root_.L2.PS.conseq {X : Cx} {e : Stmt} {t u : TS} (h : PS X e t) (c : ∀ D σ H, u D σ H → t D σ H) : PS X e u := ⟨fun pins s σ H D I q => h.run pins s σ H D I (c D σ H q)⟩
theorem _root_.L2.PSs.conseq {X : Cx} {e : List Stmt} {t u : TS} (h : PSs X e t) (c : ∀ D σ H, u D σ H → t D σ H) : PSs X e u := ⟨fun pins s σ H D I q => h.run pins s σ H D I (c D σ H q)⟩

section
variable {X : Cx} {G : Glo} {W : WX} {a b c : Expr} {ea eb ec : Ev} {pos : Pos}
/-- one after another: what follows begins where the first ends -/
theorem Post.run {K : PySem.W.Frag} {ev : Ev} {f : D → Sto → Res β} {σ : St} {H : Hp} {ρ O : List Addr} {δ : Sl} {S : Sto} {Q : VK} {P : β → Sto → Prop}
    (A : RelA K G ρ O σ H δ S) (h : ((ev δ S).bind f).To P (PX K G W ρ O σ H δ))
    (k : ∀ d S1 ρ' v H', (f d S1).To P (PX K G W ρ O σ H δ) → Stp ρ H ρ' H' → RelA K G ρ' O σ H' δ S1 → RepV K ρ' O H' v d → Q v H') : Post K G W ev σ H Q :=
  ⟨ρ, O, δ, S, A, (Res.To.bind h).imp (fun d S1 hh ρ' v H' s A' r => k d S1 ρ' v H' hh s A' r) fun _ _ e => e⟩

/-! names and constants -/
def cVar (i : Nat) : Ev := fun δ S => match δ[i]? with
  | some (some d) => .ok d S
  | _ => .bad
theorem SE.var {i : Nat} {x : Str} (hN : X.N[i]? = some x) (hv : Vis X.env.scope x) (hd : (x == ("__debug__" : Str)) = false := by decide) (hcd : (x == ("__classdict__" : Str)) = false := by decide) : SE X G W (.Name x pos) (cVar i) :=
  (pe_var hN hv hd hcd).conseq fun σ H Q ⟨ρ, O, δ, S, A, h⟩ => by
    unfold cVar at h
    split at h
    · rename_i d e
      obtain ⟨v, h1, h2⟩ := A.slot i d e
      exact ⟨v, h1, h ρ v H (.refl _ _) A h2⟩
    · exact h.elim
def cC (d : D) : Ev := fun _ S => .ok d S
theorem SE.int {i : Int} {j : Nat} : SE X G W (.Constant (.int i) j pos) (cC (.int i)) := pe_int.conseq fun σ H Q ⟨ρ, O, δ, S, A, h⟩ => h ρ _ H (.refl _ _) A (.int i)
theorem SE.bl {i : Bool} {j : Nat} : SE X G W (.Constant (.bool i) j pos) (cC (.bl i)) := pe_bl.conseq fun σ H Q ⟨ρ, O, δ, S, A, h⟩ => h ρ _ H (.refl _ _) A (.bl i)
theorem SE.non {j : Nat} : SE X G W (.Constant .none j pos) (cC .non) := pe_non.conseq fun σ H Q ⟨ρ, O, δ, S, A, h⟩ => h ρ _ H (.refl _ _) A .non
theorem SE.str {x : Str} {j : Nat} (y : List Nat) (hy : x = tx y) : SE X G W (.Constant (.str x) j pos) (cC (.str y)) := pe_str.conseq fun σ H Q ⟨ρ, O, δ, S, A, h⟩ => h ρ _ H (.refl _ _) A (by rw [hy]; exact .str y)
/-- a module's constant -/
theorem SE.glob {x : Str} {v : V} {u : Value} {d : D} (hg : Gl X x) (hm : X.mg x = some u) (r : RelV v u) (hr : ∀ ρ O H, RepV X.K ρ O H v d) (hd : (x == ("__debug__" : Str)) = false := by decide) : SE X G W (.Name x pos) (cC d) :=
  (pe_glob hg hm r hd).conseq fun σ H Q ⟨ρ, O, δ, S, A, h⟩ => h ρ _ H (.refl _ _) A (hr ρ O H)

/-! displays -/
def cNil : Sl → Sto → Res (List D) := fun _ S => .ok [] S
def cCons (a : Ev) (r : Sl → Sto → Res (List D)) : Sl → Sto → Res (List D) := fun δ S => (a δ S).bind fun d S1 => (r δ S1).bind fun ds S2 => .ok (d :: ds) S2
theorem SA.nil : SA X G W [] cNil := pa_nil.conseq fun σ H Q ⟨ρ, O, δ, S, A, h⟩ => h ρ _ H (.refl _ _) A .nil
theorem SA.cons {es : List Expr} {er : Sl → Sto → Res (List D)} (ha : SE X G W a ea) (hr : SA X G W es er) (hs : starEach (a :: es) X.env = (false, eval a X.env) :: starEach es X.env := by rfl) : SA X G W (a :: es) (cCons ea er) :=
  (pa_cons ha hr hs).conseq fun σ H Q ⟨ρ, O, δ, S, A, h⟩ => Post.run A h fun d S1 ρ1 v H1 h1 s1 A1 r1 =>
    ⟨ρ1, O, δ, S1, A1, (Res.To.bind h1).imp (fun ds S2 hh ρ2 vs H2 s2 A2 r2 => hh ρ2 _ H2 (s1.trans s2) A2 (.cons (r1.mono A1.st s2) r2)) fun _ _ e => PX.mono e s1⟩
def cTup (r : Sl → Sto → Res (List D)) : Ev := fun δ S => (r δ S).bind fun ds S1 => if ds.length ≤ 1000 then .ok (.tup ds) S1 else .bad
theorem len1000 {n : Nat} (h : n ≤ 1000) : n ≤ sizeLine := Nat.le_of_lt (small1000 h)
theorem SE.tup {es : List Expr} {er : Sl → Sto → Res (List D)} {k : Nat} (h : SA X G W es er) : SE X G W (.Tuple es k pos) (cTup er) :=
  (pe_tup h).conseq fun σ H Q ⟨ρ, O, δ, S, A, h⟩ => ⟨ρ, O, δ, S, A, (Res.To.bind h).imp (fun ds S1 hh ρ1 vs H1 s1 A1 r1 => by
    split at hh
    · rename_i hl
      refine ⟨by rw [r1.ix.1]; exact len1000 hl, fun p np => ?_⟩
      exact hh ρ1 _ _ (s1.trans (stp_new np)) (A1.of (stp_new np) (A1.st.new np)) (.tupL (.of upd_same) (r1.mono A1.st (stp_new np)))
    · exact hh.elim) fun _ _ e => e⟩
def cLstF (r : Sl → Sto → Res (List D)) : Sl → Sto → Res (List D) := fun δ S => (r δ S).bind fun ds S1 => if ds.length ≤ 1000 then .ok ds S1 else .bad
theorem SF.lst {es : List Expr} {er : Sl → Sto → Res (List D)} (h : SA X G W es er) : SF X G W (.List es pos) (cLstF er) :=
  (pe_lst h).conseq fun σ H Q ⟨ρ, O, δ, S, A, h⟩ => ⟨ρ, O, δ, S, A, (Res.To.bind h).imp (fun ds S1 hh ρ1 vs H1 s1 A1 r1 => by
    split at hh
    · rename_i hl
      refine ⟨by rw [r1.ix.1]; exact len1000 hl, fun p np => ?_⟩
      have hp : H p = none := by
        cases e : H p with
        | none => rfl
        | some o =>
          by_cases q : p ∈ ρ
          · exact absurd np (A1.st.there (s1.sub q))
          · have := s1.old p o e q
            rw [np] at this; cases this
      exact hh ρ1 p vs _ (s1.trans (stp_new np)) (A1.barred np) hp (A1.st.free np).2 upd_same ((r1.bar np).monoM (fun _ h => A1.st.mut h) (stp_new np))
    · exact hh.elim) fun _ _ e => e⟩
/-- a new list as a value that nobody changes -/
def cInl (r : Sl → Sto → Res (List D)) : Ev := fun δ S => (r δ S).bind fun ds S1 => .ok (.lst ds) S1
theorem SE.inl {er : Sl → Sto → Res (List D)} (h : SF X G W a er) : SE X G W a (cInl er) :=
  PE.conseq h fun σ H Q ⟨ρ, O, δ, S, A, h⟩ => ⟨ρ, O, δ, S, A, (Res.To.bind h).imp (fun ds S1 hh ρ1 a vs H1 s1 A1 na nO e r => by
    have sub : ∀ b ∈ O, b ∈ a :: O := fun b hb => List.mem_cons_of_mem _ hb
    exact hh ρ1 _ H1 s1 (A1.unbar sub) (.lstL e (A1.st.ho a List.mem_cons_self).2 nO (r.unbar sub))) fun _ _ e => e⟩
/-- a new list as a changeable object -/
def cNew (r : Sl → Sto → Res (List D)) : Ev := fun δ S => (r δ S).bind fun ds S1 => .ok (.loc S1.length) (S1 ++ [.lst ds])
theorem SE.new {er : Sl → Sto → Res (List D)} (h : SF X G W a er) : SE X G W a (cNew er) :=
  PE.conseq h fun σ H Q ⟨ρ, O, δ, S, A, h⟩ => ⟨ρ, O, δ, S, A, (Res.To.bind h).imp (fun ds S1 hh ρ1 a vs H1 s1 A1 na nO e r => by
    refine hh (ρ1 ++ [a]) _ H1 (stp_shift s1 na) (A1.shift (.lst e r.shift) nO) (.loc ?_)
    rw [← A1.st.len]; simp) fun _ _ e => e⟩
end
end Mp

/-! Mp, part 3: operators. -/
namespace Mp
open PySem PySem.Spec L2
open PyProof.Rows hiding St

/-- a list's items -/
def asL (S : Sto) : D → Option (List D)
  | .lst ds => some ds
  | .loc n => match S[n]? with
    | some (.lst ds) => some ds
    | _ => none
  | _ => none
section
variable {K : PySem.W.Frag} {ρ ρ' O O' : List Addr} {H H' : Hp} {S S' : Sto} {v : V} {d : D} {vs : List V} {ds : List D}
theorem asL_rep (R : RelS K ρ O H S) (r : RepV K ρ O H v d) (h : asL S d = some ds) : ∃ a vs, v = .ref a ∧ H a = some (.lst vs) ∧ RepL K ρ O H vs ds := by
  unfold asL at h
  split at h
  · cases h
    obtain ⟨a, vs, e, e1, _, _, r⟩ := r.of_lst
    exact ⟨a, vs, e, e1, r⟩
  · rename_i n
    obtain ⟨a, e, e1⟩ := r.of_loc
    split at h
    · rename_i ds' hS
      cases h
      cases R.cell n a _ e1 hS with
      | lst e2 r => exact ⟨a, _, e, e2, r⟩
    · cases h
  · cases h
/-- a value, the store as it is -/
def KV1 (K : PySem.W.Frag) (ρ O : List Addr) (H : Hp) (S : Sto) (Q : VK) (d : D) : Prop := ∀ v H', Stp ρ H ρ H' → RelS K ρ O H' S → RepV K ρ O H' v d → Q v H'
def rD (K : PySem.W.Frag) (g : Sto → D → D → Option D) : R2 := fun x y H Q => ∃ ρ O S dx dy d, RelS K ρ O H S ∧ RepV K ρ O H x dx ∧ RepV K ρ O H y dy ∧ g S dx dy = some d ∧ KV1 K ρ O H S Q d
def rD1 (K : PySem.W.Frag) (g : Sto → D → Option D) : V → Hp → VK → Prop := fun x H Q => ∃ ρ O S dx d, RelS K ρ O H S ∧ RepV K ρ O H x dx ∧ g S dx = some d ∧ KV1 K ρ O H S Q d
theorem KV1.here {Q : VK} (R : RelS K ρ O H S) (k : KV1 K ρ O H S Q d) (r : RepV K ρ O H v d) : Q v H := k v H (.refl _ _) R r
theorem KV1.fresh {Q : VK} {p : Addr} {o : HO} (R : RelS K ρ O H S) (k : KV1 K ρ O H S Q d) (np : H p = none) (r : RepV K ρ O (upd H p o) (.ref p) d) : Q (.ref p) (upd H p o) := k _ _ (stp_new np) (R.new np) r
theorem KV1.lst {Q : VK} {p : Addr} (R : RelS K ρ O H S) (k : KV1 K ρ O H S Q (.lst ds)) (np : H p = none) (r : RepL K ρ O H vs ds) : Q (.ref p) (upd H p (.lst vs)) :=
  k.fresh R np (.lstL upd_same (R.free np).1 (R.free np).2 (r.mono R (stp_new np)))
theorem KV1.tup {Q : VK} {p : Addr} (R : RelS K ρ O H S) (k : KV1 K ρ O H S Q (.tup ds)) (np : H p = none) (r : RepL K ρ O H vs ds) : Q (.ref p) (upd H p (.tup vs)) :=
  k.fresh R np (.tupL (.of upd_same) (r.mono R (stp_new np)))
theorem RepL.append {vs' : List V} {ds' : List D} (a : RepL K ρ O H vs ds) (b : RepL K ρ O H vs' ds') : RepL K ρ O H (vs ++ vs') (ds ++ ds') := by
  induction a with
  | nil => exact b
  | cons r _ ih => exact .cons r ih
end
theorem tx_len (x : List Nat) : (tx x).length = x.length := by unfold tx Str.length; simp
theorem tx_list (x : List Nat) : (tx x).cps.toList = x := by unfold tx; simp
theorem tx_app (x y : List Nat) : tx x ++ tx y = tx (x ++ y) := TL.ext_tl (by rw [TL.tl_append]; unfold TL.tl; simp [tx_list])
theorem tx_of (x : Str) : x = tx x.cps.toList := by unfold tx; simp
theorem tx_eq (x y : List Nat) : (tx x = tx y) ↔ x = y := ⟨tx_inj, fun e => by rw [e]⟩
def LIM : Nat := 1000000
theorem LIM_le {n : Nat} (h : n ≤ 1000000) : n ≤ sizeLine := by rw [sizeLine_eq]; omega

/-! ### arithmetic, + -/
def gAdd (S : Sto) (x y : D) : Option D := match x, y with
  | .int i, .int j => some (.int (i + j))
  | .str a, .str b => if a.length + b.length ≤ 1000000 then some (.str (a ++ b)) else none
  | .tup a, .tup b => if a.length + b.length ≤ 1000000 ∧ a.isEmpty = false then some (.tup (a ++ b)) else none
  | x, y => match asL S x, asL S y with
    | some a, some b => if a.length + b.length ≤ 1000000 then some (.lst (a ++ b)) else none
    | _, _ => none
def gSub (_ : Sto) (x y : D) : Option D := match x, y with
  | .int i, .int j => some (.int (i - j))
  | _, _ => none
def gMul (_ : Sto) (x y : D) : Option D := match x, y with
  | .int i, .int j => if i.natAbs.log2 + j.natAbs.log2 < 1000000 then some (.int (i * j)) else none
  | .str a, .int j => if 1 ≤ j ∧ j ≤ 100000 ∧ a.length = 1 then some (.str (List.replicate j.toNat (a.getD 0 0))) else none
  | _, _ => none
def gMod (_ : Sto) (x y : D) : Option D := match x, y with
  | .int i, .int j => if 0 < j then some (.int (i % j)) else none
  | _, _ => none
def gDiv (_ : Sto) (x y : D) : Option D := match x, y with
  | .int i, .int j => if 0 < j ∧ j.natAbs.log2 < 9000 then some (.int (i / j)) else none
  | _, _ => none
def gPow (_ : Sto) (x y : D) : Option D := match x, y with
  | .int i, .int j => if 0 ≤ j ∧ j ≤ 1000 ∧ i.natAbs < 2 ^ 64 then some (.int (i ^ j.toNat)) else none
  | _, _ => none
section
variable {X : Cx}
theorem od_add : OpR X (binaryOp .Add) (rD X.K gAdd) := by
  intro pins s σ H x y v u Q I rx ry h
  obtain ⟨ρ, O, S, dx, dy, d, R, r1, r2, hg, k⟩ := h
  unfold gAdd at hg
  split at hg
  · cases hg; cases r1; cases r2
    exact op_add pins s σ H _ _ v u Q I rx ry ⟨_, _, rfl, rfl, k.here R (.int _)⟩
  · split at hg
    · cases hg; cases r1; cases r2
      rename_i hl
      refine op_add_str pins s σ H _ _ v u Q I rx ry ⟨_, _, rfl, rfl, by rw [tx_len, tx_len]; exact LIM_le hl, ?_⟩
      rw [tx_app]; exact k.here R (.str _)
    · cases hg
  · split at hg
    · cases hg
      rename_i hl
      obtain ⟨a, vs, rfl, h1, q1⟩ := r1.of_tup
      obtain ⟨b, ws, rfl, h2, q2⟩ := r2.of_tup
      refine op_catT pins s σ H _ _ v u Q I rx ry ⟨a, b, vs, ws, rfl, rfl, h1, h2, ?_, ?_, fun e => ?_, fun _ p np => k.tup R np (q1.append q2)⟩
      · intro e; subst e
        have := q1.ix.1
        cases q1; simp at hl
      · rw [q1.ix.1, q2.ix.1]; exact LIM_le hl.1
      · subst e; cases q2
        rw [List.append_nil] at k
        exact k.here R (.tupL h1 q1)
    · cases hg
  · split at hg
    · rename_i a b e1 e2
      split at hg
      · cases hg
        rename_i hl
        obtain ⟨p, vs, rfl, h1, q1⟩ := asL_rep R r1 e1
        obtain ⟨q, ws, rfl, h2, q2⟩ := asL_rep R r2 e2
        exact op_cat pins s σ H _ _ v u Q I rx ry ⟨p, q, vs, ws, rfl, rfl, h1, h2, by rw [q1.ix.1, q2.ix.1]; exact LIM_le hl, fun p np => k.lst R np (q1.append q2)⟩
      · cases hg
    · cases hg
theorem od_sub : OpR X (binaryOp .Sub) (rD X.K gSub) := by
  intro pins s σ H x y v u Q I rx ry h
  obtain ⟨ρ, O, S, dx, dy, d, R, r1, r2, hg, k⟩ := h
  unfold gSub at hg
  split at hg
  · cases hg; cases r1; cases r2
    exact op_sub pins s σ H _ _ v u Q I rx ry ⟨_, _, rfl, rfl, k.here R (.int _)⟩
  · cases hg
theorem rep_one (c : Nat) : ∀ (n : Nat) (acc : Array Nat), (List.replicate n #[c]).foldl (· ++ ·) acc = acc ++ (List.replicate n c).toArray
  | 0, acc => by simp
  | n + 1, acc => by
    rw [List.replicate_succ, List.foldl_cons, rep_one c n, List.replicate_succ]
    apply Array.ext'
    simp
theorem od_mul : OpR X (binaryOp .Mult) (rD X.K gMul) := by
  intro pins s σ H x y v u Q I rx ry h
  obtain ⟨ρ, O, S, dx, dy, d, R, r1, r2, hg, k⟩ := h
  unfold gMul at hg
  split at hg
  · split at hg
    · cases hg; cases r1; cases r2
      rename_i hl
      exact op_mulW pins s σ H _ _ v u Q I rx ry ⟨_, _, rfl, rfl, hl, k.here R (.int _)⟩
    · cases hg
  · rename_i a j
    split at hg
    · cases hg; cases r1; cases r2
      rename_i hl
      obtain ⟨h1, h2, h3⟩ := hl
      obtain ⟨t, rfl⟩ := rx
      obtain ⟨t', rfl⟩ := ry
      obtain ⟨c, rfl⟩ : ∃ c, a = [c] := by
        match a, h3 with
        | [c], _ => exact ⟨c, rfl⟩
      have e0 : (tx [c]).length = 1 := tx_len [c]
      refine PySem.P.mul_str ?_ ?_ ?_ ?_
      · rw [decide_eq_false (by omega), decide_eq_false (by omega)]; rfl
      · intro _ _
        rw [e0]
        have : (1 : Int) ≤ (2 ^ 63 - 1) / j := by
          rw [Int.le_ediv_iff_mul_le (by omega)]; omega
        exact fun z => by
          have z' : ((1 : Nat) : Int) > (2 ^ 63 - 1) / j := z
          omega
      · intro _ _
        rw [e0]
        have hj : 1 * j.toNat ≤ sizeLine := LIM_le (by omega)
        unfold Builtin.Str.tooLong
        exact decide_eq_false (by omega)
      · have hn : ¬ j < 1 := by omega
        rw [if_neg hn]
        have fin : ∀ (y : Value) s', Inv X pins σ H s' → RelV (.str (tx (List.replicate j.toNat c))) y → EP X pins σ Q y s' := fun y s' I' r => ⟨_, H, I', r, k.here R (.str _)⟩
        split
        · rename_i hq
          have hj : j = 1 := by
            rw [e0] at hq; simpa using hq
          subst hj
          show EP X pins σ Q _ _
          exact fin _ _ I ⟨_, rfl⟩
        · have e2 : (List.replicate j.toNat (tx [c]).cps).foldl (· ++ ·) #[] = (List.replicate j.toNat c).toArray := by
            show (List.replicate j.toNat #[c]).foldl (· ++ ·) #[] = _
            rw [rep_one]; simp
          rw [e2]
          refine ⟨?_, fin _ _ (I.tok _) ⟨_, rfl⟩⟩
          show (tx (List.replicate j.toNat c)).length ≤ sizeLine
          rw [tx_len, List.length_replicate]
          exact LIM_le (by omega)
    · cases hg
  · cases hg
theorem od_mod : OpR X (binaryOp .Mod) (rD X.K gMod) := by
  intro pins s σ H x y v u Q I rx ry h
  obtain ⟨ρ, O, S, dx, dy, d, R, r1, r2, hg, k⟩ := h
  unfold gMod at hg
  split at hg
  · split at hg
    · cases hg; cases r1; cases r2
      rename_i hl
      exact op_mod pins s σ H _ _ v u Q I rx ry ⟨_, _, rfl, rfl, hl, k.here R (.int _)⟩
    · cases hg
  · cases hg
theorem od_div : OpR X (binaryOp .FloorDiv) (rD X.K gDiv) := by
  intro pins s σ H x y v u Q I rx ry h
  obtain ⟨ρ, O, S, dx, dy, d, R, r1, r2, hg, k⟩ := h
  unfold gDiv at hg
  split at hg
  · split at hg
    · cases hg; cases r1; cases r2
      rename_i hl
      exact op_fdivW pins s σ H _ _ v u Q I rx ry ⟨_, _, rfl, rfl, hl, k.here R (.int _)⟩
    · cases hg
  · cases hg
theorem od_pow : OpR X (binaryOp .Pow) (rD X.K gPow) := by
  intro pins s σ H x y v u Q I rx ry h
  obtain ⟨ρ, O, S, dx, dy, d, R, r1, r2, hg, k⟩ := h
  unfold gPow at hg
  split at hg
  · split at hg
    · cases hg; cases r1; cases r2
      rename_i hl
      exact op_pow pins s σ H _ _ v u Q I rx ry ⟨_, _, rfl, rfl, ⟨hl.1, by omega, hl.2.2⟩, k.here R (.int _)⟩
    · cases hg
  · cases hg
end

/-! ### the rule -/
def cBin (g : Sto → D → D → Option D) (a b : Ev) : Ev := fun δ S => (a δ S).bind fun x S1 => (b δ S1).bind fun y S2 => match g S2 x y with
  | some d => .ok d S2
  | none => .bad
def cUn (g : Sto → D → Option D) (a : Ev) : Ev := fun δ S => (a δ S).bind fun x S1 => match g S1 x with
  | some d => .ok d S1
  | none => .bad
section
variable {X : Cx} {G : Glo} {W : WX} {a b c : Expr} {ea eb ec : Ev} {pos : Pos}
theorem bin_post {K : PySem.W.Frag} {g : Sto → D → D → Option D} {σ : St} {H : Hp} {Q : VK} (h : Post K G W (cBin g ea eb) σ H Q) : Post K G W ea σ H fun x H1 => Post K G W eb σ H1 fun y H2 => rD K g x y H2 Q := by
  obtain ⟨ρ, O, δ, S, A, h⟩ := h
  refine Post.run A h fun d S1 ρ1 v H1 h1 s1 A1 r1 => ?_
  refine ⟨ρ1, O, δ, S1, A1, (Res.To.bind h1).imp (fun e S2 hh ρ2 w H2 s2 A2 r2 => ?_) fun _ _ e => PX.mono e s1⟩
  split at hh
  · rename_i z hz
    exact ⟨ρ2, O, S2, d, e, z, A2.st, r1.mono A1.st s2, r2, hz, fun v' H3 s3 R3 r3 => hh ρ2 v' H3 (s1.trans (s2.trans s3)) (A2.of s3 R3) r3⟩
  · exact hh.elim
theorem SE.bin {op : Operator} {g : Sto → D → D → Option D} (ho : OpR X (binaryOp op) (rD X.K g)) (ha : SE X G W a ea) (hb : SE X G W b eb) : SE X G W (.BinOp a op b pos) (cBin g ea eb) :=
  (pe_op ho ha hb).conseq fun σ H Q h => bin_post h
theorem SE.add (ha : SE X G W a ea) (hb : SE X G W b eb) : SE X G W (.BinOp a .Add b pos) (cBin gAdd ea eb) := .bin od_add ha hb
theorem SE.sub (ha : SE X G W a ea) (hb : SE X G W b eb) : SE X G W (.BinOp a .Sub b pos) (cBin gSub ea eb) := .bin od_sub ha hb
theorem SE.mul (ha : SE X G W a ea) (hb : SE X G W b eb) : SE X G W (.BinOp a .Mult b pos) (cBin gMul ea eb) := .bin od_mul ha hb
theorem SE.mod (ha : SE X G W a ea) (hb : SE X G W b eb) : SE X G W (.BinOp a .Mod b pos) (cBin gMod ea eb) := .bin od_mod ha hb
theorem SE.div (ha : SE X G W a ea) (hb : SE X G W b eb) : SE X G W (.BinOp a .FloorDiv b pos) (cBin gDiv ea eb) := .bin od_div ha hb
theorem SE.pow (ha : SE X G W a ea) (hb : SE X G W b eb) : SE X G W (.BinOp a .Pow b pos) (cBin gPow ea eb) := .bin od_pow ha hb
def gNeg (_ : Sto) (x : D) : Option D := match x with
  | .int i => some (.int (-i))
  | _ => none
theorem un_post {K : PySem.W.Frag} {g : Sto → D → Option D} {σ : St} {H : Hp} {Q : VK} (h : Post K G W (cUn g ea) σ H Q) : Post K G W ea σ H fun x H1 => rD1 K g x H1 Q := by
  obtain ⟨ρ, O, δ, S, A, h⟩ := h
  refine Post.run A h fun d S1 ρ1 v H1 h1 s1 A1 r1 => ?_
  split at h1
  · rename_i z hz
    exact ⟨ρ1, O, S1, d, z, A1.st, r1, hz, fun v' H3 s3 R3 r3 => h1 ρ1 v' H3 (s1.trans s3) (A1.of s3 R3) r3⟩
  · exact h1.elim
theorem SE.neg (ha : SE X G W a ea) : SE X G W (.UnaryOp .USub a pos) (cUn gNeg ea) :=
  (pe_un un_neg ha).conseq fun σ H Q h => by
    obtain ⟨ρ, O, δ, S, A, h⟩ := h
    refine Post.run A h fun d S1 ρ1 v H1 h1 s1 A1 r1 => ?_
    unfold gNeg at h1
    split at h1
    · rename_i z hz
      split at hz
      · cases hz; cases r1
        exact ⟨_, rfl, h1 ρ1 _ H1 s1 A1 (.int _)⟩
      · cases hz
    · exact h1.elim
end
end Mp

/-! Mp, part 4: trees of data, comparisons, tests. -/
namespace Mp
open PySem PySem.Spec L2
open PyProof.Rows hiding St

/-! ### data as trees -/
def mapO (f : D → Option PyData) : List D → Option (List PyData)
  | [] => some []
  | d :: ds => match f d, mapO f ds with
    | some t, some ts => some (t :: ts)
    | _, _ => none
def treeD (S : Sto) : Nat → D → Option PyData
  | _, .non => some .none
  | _, .bl b => some (.bool b)
  | _, .int i => some (.int i)
  | _, .str x => some (.str (tx x))
  | n + 1, .tup ds => (mapO (treeD S n) ds).map .tuple
  | n + 1, .lst ds => (mapO (treeD S n) ds).map .list
  | n + 1, .scr ns => some (.list (ns.map .int))
  | n + 1, .loc m => match S[m]? with
    | some (.lst ds) => (mapO (treeD S n) ds).map .list
    | _ => none
  | _, _ => none
section
variable {K : PySem.W.Frag} {ρ ρ' O O' : List Addr} {H H' : Hp} {S S' : Sto}
theorem mapO_dp (f : D → Option PyData) (hf : ∀ (v : V) (d : D) (t : PyData), RepV K ρ O H v d → f d = some t → Dp K H v t) : ∀ (vs : List V) (ds : List D) (ts : List PyData), RepL K ρ O H vs ds → mapO f ds = some ts → DpAll K H vs ts
  | _, _, _, .nil, h => by cases h; exact .nil
  | _, _, _, .cons r t, h => by
    unfold mapO at h
    split at h
    · rename_i t1 ts1 e1 e2
      cases h
      exact .cons (hf _ _ _ r e1) (mapO_dp f hf _ _ _ t e2)
    · cases h
theorem dp_ints : ∀ ns : List Int, DpAll K H (ns.map V.int) (ns.map PyData.int)
  | [] => .nil
  | n :: ns => .cons (.int n) (dp_ints ns)
theorem treeD_dp (R : RelS K ρ O H S) : ∀ (n : Nat) (v : V) (d : D) (t : PyData), RepV K ρ O H v d → treeD S n d = some t → Dp K H v t
  | 0, v, d, t, r, h => by
    cases d with
    | non => cases h; cases r; exact .non
    | bl b => cases h; cases r; exact .bl b
    | int i => cases h; cases r; exact .int i
    | str x => cases h; cases r; exact .str _
    | tup ds => cases h
    | lst ds => cases h
    | loc m => cases h
    | scr ns => cases h
    | exn _ _ _ => cases h
  | n + 1, v, d, t, r, h => by
    have ih := treeD_dp R n
    cases d with
    | non => cases h; cases r; exact .non
    | bl b => cases h; cases r; exact .bl b
    | int i => cases h; cases r; exact .int i
    | str x => cases h; cases r; exact .str _
    | tup ds =>
      obtain ⟨a, vs, rfl, h1, q⟩ := r.of_tup
      have h' : (mapO (treeD S n) ds).map PyData.tuple = some t := h
      cases e : mapO (treeD S n) ds with
      | none => rw [e] at h'; cases h'
      | some ts => rw [e] at h'; cases h'; exact .tup h1 (mapO_dp _ ih _ _ _ q e)
    | lst ds =>
      obtain ⟨a, vs, rfl, h1, _, _, q⟩ := r.of_lst
      have h' : (mapO (treeD S n) ds).map PyData.list = some t := h
      cases e : mapO (treeD S n) ds with
      | none => rw [e] at h'; cases h'
      | some ts => rw [e] at h'; cases h'; exact .lst (.of h1) (mapO_dp _ ih _ _ _ q e)
    | loc m =>
      have h' : (match S[m]? with | some (.lst ds) => (mapO (treeD S n) ds).map PyData.list | _ => none) = some t := h
      split at h'
      · rename_i ds hS
        obtain ⟨a, vs, rfl, h1, q⟩ := asL_rep (ds := ds) R r (by show (match S[m]? with | some (.lst ds) => some ds | _ => none) = _; rw [hS])
        cases e : mapO (treeD S n) ds with
        | none => rw [e] at h'; cases h'
        | some ts => rw [e] at h'; cases h'; exact .lst (.of h1) (mapO_dp _ ih _ _ _ q e)
      · cases h'
    | scr ns =>
      cases h
      cases r with
      | scr h => exact .lst h.seq (dp_ints ns)
    | exn _ _ _ => cases h
end

/-! ### comparisons -/
def gEq0 (S : Sto) (x y : D) : Option D := match treeD S 60 x, treeD S 60 y with
  | some t, some u => if SeqAt.shaped t = true ∧ SeqAt.shaped u = true then some (.bl (PyData.eqv t u)) else none
  | _, _ => none
def gNe0 (S : Sto) (x y : D) : Option D := match treeD S 60 x, treeD S 60 y with
  | some t, some u => if SeqAt.shaped t = true ∧ SeqAt.shaped u = true then some (.bl (!PyData.eqv t u)) else none
  | _, _ => none
def gEq (S : Sto) (x y : D) : Option D := match x, y with
  | .int i, .int j => some (.bl (decide (i = j)))
  | .str a, .str b => some (.bl (decide (a = b)))
  | x, y => gEq0 S x y
def gNe (S : Sto) (x y : D) : Option D := match x, y with
  | .int i, .int j => some (.bl (!decide (i = j)))
  | .str a, .str b => some (.bl (!decide (a = b)))
  | x, y => gNe0 S x y
def gCmp (p : Int → Int → Bool) (q : List Nat → List Nat → Bool) (_ : Sto) (x y : D) : Option D := match x, y with
  | .int i, .int j => some (.bl (p i j))
  | .str a, .str b => some (.bl (q a b))
  | _, _ => none
abbrev gLt := gCmp (fun i j => decide (i < j)) (fun a b => decide (a < b))
abbrev gLe := gCmp (fun i j => decide (i ≤ j)) (fun a b => !decide (b < a))
abbrev gGt := gCmp (fun i j => decide (j < i)) (fun a b => decide (b < a))
abbrev gGe := gCmp (fun i j => decide (j ≤ i)) (fun a b => !decide (a < b))
def gIs (_ : Sto) (x y : D) : Option D := match y with
  | .non => some (.bl (match x with | .non => true | _ => false))
  | _ => none
def gIsNot (_ : Sto) (x y : D) : Option D := match y with
  | .non => some (.bl (match x with | .non => false | _ => true))
  | _ => none
/-- the items of what may be searched -/
def inL (S : Sto) (x y : D) : Option Bool := match x, y with
  | .str [c], .str z => some (decide (c ∈ z))
  | x, y => match treeD S 60 x, treeD S 60 y with
    | some t, some (.list us) => if SeqAt.shaped t = true ∧ SeqAt.shaped (.list us) = true then some (us.any fun z => PyData.eqv z t) else none
    | some t, some (.tuple us) => if SeqAt.shaped t = true ∧ SeqAt.shaped (.tuple us) = true then some (us.any fun z => PyData.eqv z t) else none
    | _, _ => none
def gIn (S : Sto) (x y : D) : Option D := (inL S x y).map .bl
def gNotIn (S : Sto) (x y : D) : Option D := (inL S x y).map fun b => .bl (!b)
section
variable {X : Cx}
theorem od_eq (hu : X.A.units + 64 < cLine) : OpR X (compareOp .Eq) (rD X.K gEq) := by
  intro pins s σ H x y v u Q I rx ry h
  obtain ⟨ρ, O, S, dx, dy, d, R, r1, r2, hg, k⟩ := h
  unfold gEq at hg
  split at hg
  · cases hg; cases r1; cases r2
    exact op_eq pins s σ H _ _ v u Q I rx ry ⟨rfl, by rw [show decide (V.int _ = V.int _) = decide (_ = _) from decide_eq_decide.mpr ⟨fun e => V.int.inj e, fun e => by rw [e]⟩]; exact k.here R (.bl _)⟩
  · cases hg; cases r1; cases r2
    exact op_eq pins s σ H _ _ v u Q I rx ry ⟨rfl, by rw [show decide (V.str (tx _) = V.str (tx _)) = decide (_ = _) from decide_eq_decide.mpr ⟨fun e => tx_inj (V.str.inj e), fun e => by rw [e]⟩]; exact k.here R (.bl _)⟩
  · unfold gEq0 at hg
    split at hg
    · rename_i t w e1 e2
      split at hg
      · cases hg
        rename_i hs
        exact op_eqD hu pins s σ H _ _ v u Q I rx ry ⟨t, w, treeD_dp R _ _ _ _ r1 e1, treeD_dp R _ _ _ _ r2 e2, hs.1, hs.2, k.here R (.bl _)⟩
      · cases hg
    · cases hg
theorem od_ne (hu : X.A.units + 64 < cLine) : OpR X (compareOp .NotEq) (rD X.K gNe) := by
  intro pins s σ H x y v u Q I rx ry h
  obtain ⟨ρ, O, S, dx, dy, d, R, r1, r2, hg, k⟩ := h
  unfold gNe at hg
  split at hg
  · cases hg; cases r1; cases r2
    exact op_ne pins s σ H _ _ v u Q I rx ry ⟨rfl, by rw [show decide (V.int _ = V.int _) = decide (_ = _) from decide_eq_decide.mpr ⟨fun e => V.int.inj e, fun e => by rw [e]⟩]; exact k.here R (.bl _)⟩
  · cases hg; cases r1; cases r2
    exact op_ne pins s σ H _ _ v u Q I rx ry ⟨rfl, by rw [show decide (V.str (tx _) = V.str (tx _)) = decide (_ = _) from decide_eq_decide.mpr ⟨fun e => tx_inj (V.str.inj e), fun e => by rw [e]⟩]; exact k.here R (.bl _)⟩
  · unfold gNe0 at hg
    split at hg
    · rename_i t w e1 e2
      split at hg
      · cases hg
        rename_i hs
        exact op_neD hu pins s σ H _ _ v u Q I rx ry ⟨t, w, treeD_dp R _ _ _ _ r1 e1, treeD_dp R _ _ _ _ r2 e2, hs.1, hs.2, k.here R (.bl _)⟩
      · cases hg
    · cases hg
theorem od_cmp {f : Value → Value → Sem Value} {p : Int → Int → Bool} {q : List Nat → List Nat → Bool} (h1 : OpR X f (rI0 fun i j => .bl (p i j)))
    (h2 : OpR X f (fun x y H Q => ∃ i j, x = .str i ∧ y = .str j ∧ Q (.bl (q i.cps.toList j.cps.toList)) H)) : OpR X f (rD X.K (gCmp p q)) := by
  intro pins s σ H x y v u Q I rx ry h
  obtain ⟨ρ, O, S, dx, dy, d, R, r1, r2, hg, k⟩ := h
  unfold gCmp at hg
  split at hg
  · cases hg; cases r1; cases r2
    exact h1 pins s σ H _ _ v u Q I rx ry ⟨_, _, rfl, rfl, k.here R (.bl _)⟩
  · cases hg; cases r1; cases r2
    refine h2 pins s σ H _ _ v u Q I rx ry ⟨_, _, rfl, rfl, ?_⟩
    rw [tx_list, tx_list]; exact k.here R (.bl _)
  · cases hg
theorem od_lt : OpR X (compareOp .Lt) (rD X.K gLt) := od_cmp op_lt op_lt_str
theorem od_le : OpR X (compareOp .LtE) (rD X.K gLe) := od_cmp op_le op_le_str
theorem od_gt : OpR X (compareOp .Gt) (rD X.K gGt) := od_cmp op_gt op_gt_str
theorem od_ge : OpR X (compareOp .GtE) (rD X.K gGe) := od_cmp op_ge op_ge_str
theorem isnon_rep {K : PySem.W.Frag} {ρ O : List Addr} {H : Hp} {x : V} {d : D} (r : RepV K ρ O H x d) : decide (x = .non) = (match d with | .non => true | _ => false) := by
  cases r <;> first | exact decide_eq_true rfl | exact decide_eq_false (by intro e; cases e)
theorem od_is : OpR X (compareOp .Is) (rD X.K gIs) := by
  intro pins s σ H x y v u Q I rx ry h
  obtain ⟨ρ, O, S, dx, dy, d, R, r1, r2, hg, k⟩ := h
  unfold gIs at hg
  split at hg
  · cases hg; cases r2
    refine op_isN pins s σ H _ _ v u Q I rx ry ⟨rfl, ?_⟩
    rw [isnon_rep r1]
    cases dx <;> exact k.here R (.bl _)
  · cases hg
theorem od_isnot : OpR X (compareOp .IsNot) (rD X.K gIsNot) := by
  intro pins s σ H x y v u Q I rx ry h
  obtain ⟨ρ, O, S, dx, dy, d, R, r1, r2, hg, k⟩ := h
  unfold gIsNot at hg
  split at hg
  · cases hg; cases r2
    refine op_notN pins s σ H _ _ v u Q I rx ry ⟨rfl, ?_⟩
    rw [isnon_rep r1]
    cases dx <;> exact k.here R (.bl _)
  · cases hg
theorem od_in (hu : X.A.units + 65 < cLine) : OpR X (compareOp .In) (rD X.K gIn) := by
  intro pins s σ H x y v u Q I rx ry h
  obtain ⟨ρ, O, S, dx, dy, d, R, r1, r2, hg, k⟩ := h
  unfold gIn at hg
  cases hb : inL S dx dy with
  | none => rw [hb] at hg; cases hg
  | some b =>
    rw [hb] at hg; cases hg
    unfold inL at hb
    split at hb
    · cases hb; cases r1; cases r2
      refine op_in_sign pins s σ H _ _ v u Q I rx ry ⟨_, _, rfl, rfl, ?_⟩
      rw [tx_list]; exact k.here R (.bl _)
    · split at hb
      · rename_i t us e1 e2
        split at hb
        · cases hb
          rename_i hs
          exact op_inD hu pins s σ H _ _ v u Q I rx ry ⟨t, us, treeD_dp R _ _ _ _ r1 e1, treeD_dp R _ _ _ _ r2 e2, hs.1, hs.2, k.here R (.bl _)⟩
        · cases hb
      · rename_i t us e1 e2
        split at hb
        · cases hb
          rename_i hs
          obtain ⟨as, q1⟩ := Dp.reads I t _ v (treeD_dp R _ _ _ _ r1 e1) rx
          obtain ⟨bs, q2⟩ := Dp.reads I (.tuple us) _ u (treeD_dp R _ _ _ _ r2 e2) ry
          exact SeqAt.in_tuple_reads q2 q1 (SeqAt.canLay_of_shaped hs.2) (SeqAt.canLay_of_shaped hs.1) (room_in_shaped hs.1 hu) ⟨.bl _, H, I, rfl, k.here R (.bl _)⟩
        · cases hb
      · cases hb
theorem od_notin (hu : X.A.units + 65 < cLine) : OpR X (compareOp .NotIn) (rD X.K gNotIn) := by
  intro pins s σ H x y v u Q I rx ry h
  obtain ⟨ρ, O, S, dx, dy, d, R, r1, r2, hg, k⟩ := h
  unfold gNotIn at hg
  cases hb : inL S dx dy with
  | none => rw [hb] at hg; cases hg
  | some b =>
    rw [hb] at hg; cases hg
    unfold inL at hb
    split at hb
    · cases hb; cases r1; cases r2
      refine op_notIn_sign pins s σ H _ _ v u Q I rx ry ⟨_, _, rfl, rfl, ?_⟩
      rw [tx_list]; exact k.here R (.bl _)
    · split at hb
      · rename_i t us e1 e2
        split at hb
        · cases hb
          rename_i hs
          exact op_notInD hu pins s σ H _ _ v u Q I rx ry ⟨t, us, treeD_dp R _ _ _ _ r1 e1, treeD_dp R _ _ _ _ r2 e2, hs.1, hs.2, k.here R (.bl _)⟩
        · cases hb
      · rename_i t us e1 e2
        split at hb
        · cases hb
          rename_i hs
          obtain ⟨as, q1⟩ := Dp.reads I t _ v (treeD_dp R _ _ _ _ r1 e1) rx
          obtain ⟨bs, q2⟩ := Dp.reads I (.tuple us) _ u (treeD_dp R _ _ _ _ r2 e2) ry
          exact SeqAt.notIn_tuple_reads q2 q1 (SeqAt.canLay_of_shaped hs.2) (SeqAt.canLay_of_shaped hs.1) (room_in_shaped hs.1 hu) ⟨.bl _, H, I, rfl, k.here R (.bl _)⟩
        · cases hb
      · cases hb
end

/-! ### truth and tests -/
def truth (S : Sto) : D → Option Bool
  | .non => some false
  | .bl b => some b
  | .int i => some (i != 0)
  | .str x => if x.length ≤ 1000000 then some (!x.isEmpty) else none
  | .tup ds => some (!ds.isEmpty)
  | .lst ds => some (!ds.isEmpty)
  | .loc n => match S[n]? with
    | some (.lst ds) => some (!ds.isEmpty)
    | _ => none
  | .scr ns => some (!ns.isEmpty)
  | .exn _ _ _ => none
def isB : D → Option Bool
  | .bl b => some b
  | _ => none
/-- as a test: a value that is a bool; any value -/
def tB1 (a : Ev) : EvB := fun δ S => (a δ S).bind fun x S1 => match isB x with
  | some b => .ok b S1
  | none => .bad
def tTr (a : Ev) : EvB := fun δ S => (a δ S).bind fun x S1 => match truth S1 x with
  | some b => .ok b S1
  | none => .bad
def tAndB (a b : EvB) : EvB := fun δ S => (a δ S).bind fun x S1 => if x = true then b δ S1 else .ok false S1
def tOrB (a b : EvB) : EvB := fun δ S => (a δ S).bind fun x S1 => if x = true then .ok true S1 else b δ S1
def tNotB (a : EvB) : EvB := fun δ S => (a δ S).bind fun x S1 => .ok (!x) S1
/-- as values -/
def cAnd (a b : Ev) : Ev := fun δ S => (a δ S).bind fun x S1 => match isB x with
  | some true => b δ S1
  | some false => .ok (.bl false) S1
  | none => .bad
def cOr (a b : Ev) : Ev := fun δ S => (a δ S).bind fun x S1 => match isB x with
  | some false => b δ S1
  | some true => .ok (.bl true) S1
  | none => .bad
def cNot (a : Ev) : Ev := fun δ S => (a δ S).bind fun x S1 => match isB x with
  | some b => .ok (.bl (!b)) S1
  | none => .bad
def cIf (t : EvB) (a b : Ev) : Ev := fun δ S => (t δ S).bind fun x S1 => if x = true then a δ S1 else b δ S1
section
variable {X : Cx} {G : Glo} {W : WX} {a b c : Expr} {ea eb ec : Ev} {ta tb tc : EvB} {pos : Pos} {rest : List Expr}
theorem isB_rep {K : PySem.W.Frag} {ρ O : List Addr} {H : Hp} {x : V} {d : D} {k : Bool} (r : RepV K ρ O H x d) (h : isB d = some k) : x = .bl k := by
  unfold isB at h
  split at h
  · cases h; cases r; rfl
  · cases h
theorem truth_rep {K : PySem.W.Frag} {ρ O : List Addr} {H : Hp} {S : Sto} {x : V} {d : D} {k : Bool} (R : RelS K ρ O H S) (r : RepV K ρ O H x d) (h : truth S d = some k) : TruV K x H k := by
  have em : ∀ {vs : List V} {ds : List D}, RepL K ρ O H vs ds → (!ds.isEmpty) = !vs.isEmpty := fun q => by cases q <;> rfl
  cases d with
  | non => cases h; cases r; rfl
  | bl b => cases h; cases r; rfl
  | int i => cases h; cases r; rfl
  | str x =>
    have h' : (if x.length ≤ 1000000 then some (!x.isEmpty) else none) = some k := h
    split at h'
    · cases h'; cases r
      rename_i hl
      refine ⟨by rw [tx_len]; exact LIM_le hl, ?_⟩
      rw [tx_len]
      cases x with
      | nil => rfl
      | cons c y =>
        have : (((c :: y).length : Nat) : Int) ≠ 0 := by simp; omega
        show (!([c] ++ y).isEmpty) = ((((c :: y).length : Nat) : Int) != 0)
        rw [bne_iff_ne.mpr this]; rfl
    · cases h'
  | tup ds =>
    cases h
    obtain ⟨a, vs, rfl, h1, q⟩ := r.of_tup
    exact .inr (.inl ⟨vs, h1, em q⟩)
  | lst ds =>
    cases h
    obtain ⟨a, vs, rfl, h1, _, _, q⟩ := r.of_lst
    exact .inl ⟨vs, .of h1, em q⟩
  | loc n =>
    have h' : (match S[n]? with | some (.lst ds) => some (!ds.isEmpty) | _ => none) = some k := h
    split at h'
    · rename_i ds hS
      cases h'
      obtain ⟨a, vs, rfl, h1, q⟩ := asL_rep (ds := ds) R r (by show (match S[n]? with | some (.lst ds) => some ds | _ => none) = _; rw [hS])
      exact .inl ⟨vs, .of h1, em q⟩
    · cases h'
  | scr ns =>
    cases h
    cases r with
    | scr h => exact .inl ⟨_, h.seq, by cases ns <;> rfl⟩
  | exn _ _ _ => cases h
/-- behind a value: what is known of it -/
theorem post_k {K : PySem.W.Frag} {f : Sto → D → Option Bool} {σ : St} {H : Hp} {R : V → Hp → Prop} {Q : Bool → Hp → Prop} (h : PostT K G W (fun δ S => (ea δ S).bind fun x S1 => match f S1 x with | some b => .ok b S1 | none => .bad) σ H Q)
    (hr : ∀ ρ O H S x d k, RelS K ρ O H S → RepV K ρ O H x d → f S d = some k → Q k H → R x H) : Post K G W ea σ H R := by
  obtain ⟨ρ, O, δ, S, A, h⟩ := h
  refine Post.run A h fun d S1 ρ1 v H1 h1 s1 A1 r1 => ?_
  split at h1
  · rename_i k hk
    exact hr ρ1 O H1 S1 v d k A1.st r1 hk (h1 ρ1 H1 s1 A1)
  · exact h1.elim
theorem ST.val (ha : SE X G W a ea) (he : ∀ whole, isTrue a X.env whole = (do let v ← whole; standAt a.pos; holding [v] (truthy v)) := by intro _; rfl) : ST X G W a (tB1 ea) :=
  (pt_val ha he).conseq fun σ H Q h => post_k (f := fun _ => isB) h fun ρ O H S x d k R r hk q => ⟨k, isB_rep r hk, q⟩
theorem ST.tru (ha : SE X G W a ea) (he : ∀ whole, isTrue a X.env whole = (do let v ← whole; standAt a.pos; holding [v] (truthy v)) := by intro _; rfl) : ST X G W a (tTr ea) :=
  (pt_truth ha he).conseq fun σ H Q h => post_k (f := truth) h fun ρ O H S x d k R r hk q => ⟨k, truth_rep R r hk, q⟩
theorem SE.cmp {op : CmpOp} {g : Sto → D → D → Option D} (ho : OpR X (compareOp op) (rD X.K g)) (ha : SE X G W a ea) (hb : SE X G W b eb) (hm : behindInMarks op b = false := by first | exact nomark _ | rfl) : SE X G W (.Compare a [op] [b] pos) (cBin g ea eb) :=
  (pe_cmpR ho ha hb hm).conseq fun σ H Q h => bin_post h
theorem ST.cmp {op : CmpOp} {g : Sto → D → D → Option D} (ho : OpR X (compareOp op) (rD X.K g)) (ha : SE X G W a ea) (hb : SE X G W b eb) (hm : behindInMarks op b = false := by first | exact nomark _ | rfl) : ST X G W (.Compare a [op] [b] pos) (tB1 (cBin g ea eb)) :=
  (pt_cmpR ho ha hb hm).conseq fun σ H Q h => by
    have q : Post X.K G W (cBin g ea eb) σ H fun x H' => ∃ k, x = .bl k ∧ Q k H' := post_k (f := fun _ => isB) h fun ρ O H S x d k R r hk q => ⟨k, isB_rep r hk, q⟩
    exact bin_post q
abbrev SW (X : Cx) (G : Glo) (W : WX) (e : Expr) (ev : EvB) : Prop := PW X e (PostT X.K G W ev)
theorem _root_.L2.PW.conseq {X : Cx} {e : Expr} {t u : TT} (h : PW X e t) (c : ∀ σ H Q, u σ H Q → t σ H Q) : PW X e u := ⟨fun whole pins s σ H Q I q => h.run whole pins s σ H Q I (c σ H Q q)⟩
/-- one test after another -/
theorem PostT.run {K : PySem.W.Frag} {β : Type} {ev : EvB} {f : Bool → Sto → Res β} {σ : St} {H : Hp} {ρ O : List Addr} {δ : Sl} {S : Sto} {Q : Bool → Hp → Prop} {P : β → Sto → Prop}
    (A : RelA K G ρ O σ H δ S) (h : ((ev δ S).bind f).To P (PX K G W ρ O σ H δ))
    (k : ∀ d S1 ρ' H', (f d S1).To P (PX K G W ρ O σ H δ) → Stp ρ H ρ' H' → RelA K G ρ' O σ H' δ S1 → Q d H') : PostT K G W ev σ H Q :=
  ⟨ρ, O, δ, S, A, (Res.To.bind h).imp (fun d S1 hh ρ' H' s A' => k d S1 ρ' H' hh s A') fun _ _ e => e⟩
/-- from a later state on -/
theorem PostT.from {K : PySem.W.Frag} {ev : EvB} {σ : St} {H H1 : Hp} {ρ ρ1 O : List Addr} {δ : Sl} {S1 : Sto} {Q : Bool → Hp → Prop} (s1 : Stp ρ H ρ1 H1) (A1 : RelA K G ρ1 O σ H1 δ S1)
    (h : (ev δ S1).To (PT' K G ρ O σ H δ Q) (PX K G W ρ O σ H δ)) : PostT K G W ev σ H1 Q :=
  ⟨ρ1, O, δ, S1, A1, h.imp (fun _ _ hh ρ2 H2 s2 A2 => hh ρ2 H2 (s1.trans s2) A2) fun _ _ e => PX.mono e s1⟩
theorem Post.from {K : PySem.W.Frag} {ev : Ev} {σ : St} {H H1 : Hp} {ρ ρ1 O : List Addr} {δ : Sl} {S1 : Sto} {Q : VK} (s1 : Stp ρ H ρ1 H1) (A1 : RelA K G ρ1 O σ H1 δ S1)
    (h : (ev δ S1).To (PV K G ρ O σ H δ Q) (PX K G W ρ O σ H δ)) : Post K G W ev σ H1 Q :=
  ⟨ρ1, O, δ, S1, A1, h.imp (fun _ _ hh ρ2 v H2 s2 A2 r2 => hh ρ2 v H2 (s1.trans s2) A2 r2) fun _ _ e => PX.mono e s1⟩
theorem SW.and1 (ha : ST X G W a ta) : SW X G W (.BoolOp .And [a] pos) ta := pw_and1 ha
theorem SW.or1 (ha : ST X G W a ta) : SW X G W (.BoolOp .Or [a] pos) ta := pw_or1 ha
theorem SW.and (ha : ST X G W a ta) (hb : SW X G W (.BoolOp .And (b :: rest) pos) tb) : SW X G W (.BoolOp .And (a :: b :: rest) pos) (tAndB ta tb) :=
  (pw_and ha hb).conseq fun σ H Q ⟨ρ, O, δ, S, A, h⟩ => PostT.run A h fun d S1 ρ1 H1 h1 s1 A1 => by
    split at h1
    · rename_i e; rw [if_pos e]; exact PostT.from s1 A1 h1
    · rename_i e; rw [if_neg e]
      exact h1 ρ1 H1 s1 A1
theorem SW.or (ha : ST X G W a ta) (hb : SW X G W (.BoolOp .Or (b :: rest) pos) tb) : SW X G W (.BoolOp .Or (a :: b :: rest) pos) (tOrB ta tb) :=
  (pw_or ha hb).conseq fun σ H Q ⟨ρ, O, δ, S, A, h⟩ => PostT.run A h fun d S1 ρ1 H1 h1 s1 A1 => by
    split at h1
    · rename_i e; rw [if_pos e]; exact h1 ρ1 H1 s1 A1
    · rename_i e; rw [if_neg e]; exact PostT.from s1 A1 h1
theorem ST.w (h : SW X G W a ta) : ST X G W a ta := h.pt
theorem ST.not (ha : ST X G W a ta) : ST X G W (.UnaryOp .Not a pos) (tNotB ta) :=
  (pt_not ha).conseq fun σ H Q ⟨ρ, O, δ, S, A, h⟩ => PostT.run A h fun d S1 ρ1 H1 h1 s1 A1 => h1 ρ1 H1 s1 A1
theorem SE.and1 {op : BoolOp} (ha : SE X G W a ea) : SE X G W (.BoolOp op [a] pos) ea := pe_one ha
theorem SE.and (ha : SE X G W a ea) (hb : SE X G W (.BoolOp .And (b :: rest) pos) eb) : SE X G W (.BoolOp .And (a :: b :: rest) pos) (cAnd ea eb) :=
  (pe_and ha hb).conseq fun σ H Q ⟨ρ, O, δ, S, A, h⟩ => Post.run A h fun d S1 ρ1 v H1 h1 s1 A1 r1 => by
    split at h1
    · rename_i e; exact ⟨true, isB_rep r1 e, by rw [if_pos rfl]; exact Post.from s1 A1 h1⟩
    · rename_i e; exact ⟨false, isB_rep r1 e, by rw [if_neg (by decide)]; exact h1 ρ1 _ H1 s1 A1 (.bl _)⟩
    · exact h1.elim
theorem SE.or (ha : SE X G W a ea) (hb : SE X G W (.BoolOp .Or (b :: rest) pos) eb) : SE X G W (.BoolOp .Or (a :: b :: rest) pos) (cOr ea eb) :=
  (pe_or ha hb).conseq fun σ H Q ⟨ρ, O, δ, S, A, h⟩ => Post.run A h fun d S1 ρ1 v H1 h1 s1 A1 r1 => by
    split at h1
    · rename_i e; exact ⟨false, isB_rep r1 e, by rw [if_neg (by decide)]; exact Post.from s1 A1 h1⟩
    · rename_i e; exact ⟨true, isB_rep r1 e, by rw [if_pos rfl]; exact h1 ρ1 _ H1 s1 A1 (.bl _)⟩
    · exact h1.elim
theorem SE.not (ha : SE X G W a ea) : SE X G W (.UnaryOp .Not a pos) (cNot ea) :=
  (pe_not ha).conseq fun σ H Q ⟨ρ, O, δ, S, A, h⟩ => Post.run A h fun d S1 ρ1 v H1 h1 s1 A1 r1 => by
    split at h1
    · rename_i k e; exact ⟨k, isB_rep r1 e, h1 ρ1 _ H1 s1 A1 (.bl _)⟩
    · exact h1.elim
theorem SE.ite (hc : ST X G W c tc) (ha : SE X G W a ea) (hb : SE X G W b eb) : SE X G W (.IfExp c a b pos) (cIf tc ea eb) :=
  (pe_ifExp hc ha hb).conseq fun σ H Q ⟨ρ, O, δ, S, A, h⟩ => PostT.run A h fun d S1 ρ1 H1 h1 s1 A1 => by
    split at h1
    · rename_i e; rw [if_pos e]; exact Post.from s1 A1 h1
    · rename_i e; rw [if_neg e]; exact Post.from s1 A1 h1
/-- a op1 b op2 c -/
def cChain (g g' : Sto → D → D → Option D) (a b c : Ev) : Ev := fun δ S => (a δ S).bind fun x S1 => (b δ S1).bind fun y S2 => match (g S2 x y).bind isB with
  | some true => (c δ S2).bind fun z S3 => match g' S3 y z with
    | some d => .ok d S3
    | none => .bad
  | some false => .ok (.bl false) S2
  | none => .bad
theorem chain_post {K : PySem.W.Frag} {g g' : Sto → D → D → Option D} {σ : St} {H : Hp} {Q : VK} (hg : ∀ S x y d, g S x y = some d → ∃ k, d = .bl k) (h : Post K G W (cChain g g' ea eb ec) σ H Q) :
    tChain (rD K g) (rD K g') (Post K G W ea) (Post K G W eb) (Post K G W ec) σ H Q := by
  obtain ⟨ρ, O, δ, S, A, h⟩ := h
  refine Post.run A h fun d S1 ρ1 v H1 h1 s1 A1 r1 => ?_
  refine ⟨ρ1, O, δ, S1, A1, (Res.To.bind h1).imp (fun e S2 hh ρ2 w H2 s2 A2 r2 => ?_) fun _ _ e => PX.mono e s1⟩
  cases eg : g S2 d e with
  | none => rw [eg] at hh; exact hh.elim
  | some z =>
    obtain ⟨k, rfl⟩ := hg _ _ _ _ eg
    rw [eg] at hh
    refine ⟨ρ2, O, S2, d, e, _, A2.st, r1.mono A1.st s2, r2, eg, fun v' H3 s3 R3 r3 => ?_⟩
    cases r3
    have A3 := A2.of s3 R3
    have s03 := s1.trans (s2.trans s3)
    refine ⟨k, rfl, ?_⟩
    cases k with
    | true =>
      rw [if_pos rfl]
      refine ⟨ρ2, O, δ, S2, A3, (Res.To.bind hh).imp (fun z S4 h4 ρ4 w4 H4 s4 A4 r4 => ?_) fun _ _ e => PX.mono e s03⟩
      split at h4
      · rename_i q hq
        exact ⟨ρ4, O, S4, e, z, q, A4.st, (r2.mono A2.st s3).mono A3.st s4, r4, hq, fun v5 H5 s5 R5 r5 => h4 ρ4 v5 H5 (s03.trans (s4.trans s5)) (A4.of s5 R5) r5⟩
      · exact h4.elim
    | false =>
      rw [if_neg (by decide)]
      exact hh ρ2 _ H3 s03 A3 (.bl _)
theorem gCmp_bl {p : Int → Int → Bool} {q : List Nat → List Nat → Bool} : ∀ S x y d, gCmp p q S x y = some d → ∃ k, d = .bl k := by
  intro S x y d h
  unfold gCmp at h
  split at h <;> cases h <;> exact ⟨_, rfl⟩
theorem SE.chain {op op' : CmpOp} {g g' : Sto → D → D → Option D} (ho : OpR X (compareOp op) (rD X.K g)) (ho' : OpR X (compareOp op') (rD X.K g')) (hg : ∀ S x y d, g S x y = some d → ∃ k, d = .bl k) (ha : SE X G W a ea) (hb : SE X G W b eb) (hc : SE X G W c ec)
    (hm : lastMarks [op, op'] [b, c] = false := by with_unfolding_all rfl) : SE X G W (.Compare a [op, op'] [b, c] pos) (cChain g g' ea eb ec) :=
  (pe_chain ho ho' ha hb hc hm).conseq fun σ H Q h => chain_post hg h
theorem ST.chain {op op' : CmpOp} {g g' : Sto → D → D → Option D} (ho : OpR X (compareOp op) (rD X.K g)) (ho' : OpR X (compareOp op') (rD X.K g')) (hg : ∀ S x y d, g S x y = some d → ∃ k, d = .bl k) (ha : SE X G W a ea) (hb : SE X G W b eb) (hc : SE X G W c ec)
    (hm : lastMarks [op, op'] [b, c] = false := by with_unfolding_all rfl) : ST X G W (.Compare a [op, op'] [b, c] pos) (tB1 (cChain g g' ea eb ec)) :=
  (pt_chain ho ho' ha hb hc hm).conseq fun σ H Q h => by
    have q : Post X.K G W (cChain g g' ea eb ec) σ H fun x H' => ∃ k, x = .bl k ∧ Q k H' := post_k (f := fun _ => isB) h fun ρ O H S x d k R r hk q => ⟨k, isB_rep r hk, q⟩
    exact chain_post hg q
end
end Mp

/-! Mp, part 5: statements, targets, loops. -/
namespace Mp
open PySem PySem.Spec L2
open PyProof.Rows hiding St

def Res.out {α : Type} (r : Res α) (δ : Sl) (f : α → Sto → Out) : Out := match r with
  | .ok a S => f a S
  | .exc x S => .ex x δ S
  | .bad => .bad
@[simp] theorem Res.out_ok {α : Type} (a : α) (S : Sto) (δ : Sl) (f : α → Sto → Out) : (Res.ok a S).out δ f = f a S := rfl
@[simp] theorem Res.out_exc {α : Type} (x : Exn) (S : Sto) (δ : Sl) (f : α → Sto → Out) : (Res.exc x S : Res α).out δ f = .ex x δ S := rfl
@[simp] theorem Res.out_bad {α : Type} (δ : Sl) (f : α → Sto → Out) : (Res.bad : Res α).out δ f = .bad := rfl
/-- what is wanted behind a statement, from (ρ O H) on -/
def OT (K : PySem.W.Frag) (G : Glo) (W : WX) (ρ O : List Addr) (H : Hp) (D : Ends) (o : Out) : Prop :=
  o.To (PN K G ρ O H D.nx) (PR K ρ O H D.rt) (PN K G ρ O H D.bk) (PN K G ρ O H D.ct) (PE' K G W ρ O H)
theorem OT.later {K : PySem.W.Frag} {G : Glo} {W : WX} {ρ ρ' O : List Addr} {H H' : Hp} {D : Ends} {o : Out} (s : Stp ρ H ρ' H') (h : OT K G W ρ O H D o) : OT K G W ρ' O H' D o := by
  cases o with
  | nx δ S => exact fun ρ2 σ2 H2 s2 A2 => h ρ2 σ2 H2 (s.trans s2) A2
  | rt d S => exact fun ρ2 v H2 s2 A2 r2 => h ρ2 v H2 (s.trans s2) A2 r2
  | bk δ S => exact fun ρ2 σ2 H2 s2 A2 => h ρ2 σ2 H2 (s.trans s2) A2
  | ct δ S => exact fun ρ2 σ2 H2 s2 A2 => h ρ2 σ2 H2 (s.trans s2) A2
  | ex x δ S => exact fun ρ2 σ2 c dd H2 s2 A2 r2 => h ρ2 σ2 c dd H2 (s.trans s2) A2 r2
  | bad => exact h
theorem PostS.of {K : PySem.W.Frag} {G : Glo} {W : WX} {ρ O : List Addr} {σ : St} {H : Hp} {δ : Sl} {S : Sto} {D : Ends} {ev : EvS} (A : RelA K G ρ O σ H δ S) (h : OT K G W ρ O H D (ev δ S)) : PostS K G W ev D σ H := ⟨ρ, O, δ, S, A, h⟩
theorem out_to {α : Type} {K : PySem.W.Frag} {G : Glo} {W : WX} {ρ O : List Addr} {σ : St} {H : Hp} {δ : Sl} {D : Ends} {r : Res α} {f : α → Sto → Out} (h : OT K G W ρ O H D (r.out δ f)) :
    r.To (fun a S' => OT K G W ρ O H D (f a S')) (PX K G W ρ O σ H δ) := by
  cases r with
  | ok a S => exact h
  | exc x S => exact fun ρ' cls dd H' s A x => h ρ' σ cls dd H' s A x
  | bad => exact h
theorem RelA.set {K : PySem.W.Frag} {G : Glo} {ρ O : List Addr} {σ : St} {H : Hp} {δ : Sl} {S : Sto} {v : V} {d : D} (A : RelA K G ρ O σ H δ S) (i : Nat) (r : RepV K ρ O H v d) : RelA K G ρ O (σ.set i (some v)) H (δ.set i (some d)) S := by
  refine ⟨A.st, by simp [A.len], fun j e h => ?_, fun m em h => ?_, A.hx⟩
  rotate_left
  · by_cases hj : m.i = i
    · subst hj
      have hl := (List.getElem?_eq_some_iff.mp h).1
      rw [List.getElem?_set_self (by simpa using hl)] at h
      cases h
    · rw [List.getElem?_set_ne (Ne.symm hj)] at h ⊢
      exact A.hs m em h
  by_cases hj : j = i
  · subst hj
    have hl : j < δ.length := by
      have := (List.getElem?_eq_some_iff.mp h).1
      simpa using this
    rw [List.getElem?_set_self hl] at h
    cases h
    exact ⟨v, by rw [List.getElem?_set_self (by rw [A.len]; exact hl)], r⟩
  · rw [List.getElem?_set_ne (Ne.symm hj)] at h
    obtain ⟨w, h1, h2⟩ := A.slot j e h
    exact ⟨w, by rw [List.getElem?_set_ne (Ne.symm hj)]; exact h1, h2⟩

def sSeq (a b : EvS) : EvS := fun δ S => match a δ S with
  | .nx δ1 S1 => b δ1 S1
  | o => o
def sNx : EvS := fun δ S => .nx δ S
def sSet (i : Nat) (a : Ev) : EvS := fun δ S => (a δ S).out δ fun d S1 => .nx (δ.set i (some d)) S1
def sRet (a : Ev) : EvS := fun δ S => (a δ S).out δ fun d S1 => .rt d S1
def sRetN : EvS := fun _ S => .rt .non S
def sExpr (a : Ev) : EvS := fun δ S => (a δ S).out δ fun _ S1 => .nx δ S1
def sIf (t : EvB) (a b : EvS) : EvS := fun δ S => (t δ S).out δ fun k S1 => if k = true then a δ S1 else b δ S1
def sCont : EvS := fun δ S => .ct δ S
def sBreak : EvS := fun δ S => .bk δ S
section
variable {X : Cx} {G : Glo} {W : WX} {a b c : Expr} {ea eb ec : Ev} {ta tb tc : EvB} {s : Stmt} {ss : List Stmt} {es es' : EvS} {pos : Pos}
theorem Post.ofO {K : PySem.W.Frag} {ev : Ev} {f : D → Sto → Out} {σ : St} {H : Hp} {ρ O : List Addr} {δ : Sl} {S : Sto} {Q : VK} {D : Ends}
    (A : RelA K G ρ O σ H δ S) (h : OT K G W ρ O H D ((ev δ S).out δ f))
    (k : ∀ d S1 ρ' v H', OT K G W ρ' O H' D (f d S1) → Stp ρ H ρ' H' → RelA K G ρ' O σ H' δ S1 → RepV K ρ' O H' v d → Q v H') : Post K G W ev σ H Q :=
  ⟨ρ, O, δ, S, A, (out_to h).imp (fun d S1 hh ρ' v H' s A' r => k d S1 ρ' v H' (hh.later s) s A' r) fun _ _ e => e⟩
theorem PostT.ofO {K : PySem.W.Frag} {ev : EvB} {f : Bool → Sto → Out} {σ : St} {H : Hp} {ρ O : List Addr} {δ : Sl} {S : Sto} {Q : Bool → Hp → Prop} {D : Ends}
    (A : RelA K G ρ O σ H δ S) (h : OT K G W ρ O H D ((ev δ S).out δ f))
    (k : ∀ d S1 ρ' H', OT K G W ρ' O H' D (f d S1) → Stp ρ H ρ' H' → RelA K G ρ' O σ H' δ S1 → Q d H') : PostT K G W ev σ H Q :=
  ⟨ρ, O, δ, S, A, (out_to h).imp (fun d S1 hh ρ' H' s A' => k d S1 ρ' H' (hh.later s) s A') fun _ _ e => e⟩
theorem SSs.nil : SSs X G W [] sNx := pss_nil.conseq fun D σ H ⟨ρ, O, δ, S, A, h⟩ => h ρ σ H (.refl _ _) A
theorem SSs.cons (h1 : SS X G W s es) (h2 : SSs X G W ss es') : SSs X G W (s :: ss) (sSeq es es') :=
  (pss_cons h1 h2).conseq fun D σ H ⟨ρ, O, δ, S, A, h⟩ => by
    refine PostS.of A ?_
    unfold sSeq at h
    generalize es δ S = o at h
    cases o with
    | nx δ1 S1 => exact fun ρ1 σ1 H1 s1 A1 => PostS.of A1 (OT.later s1 h)
    | rt d S => exact h
    | bk δ S => exact h
    | ct δ S => exact h
    | ex x δ S => exact h
    | bad => exact h
theorem SSs.one (h1 : SS X G W s es) : SSs X G W [s] es := pss_one h1
theorem SS.pass : SS X G W (.Pass pos) sNx := ps_pass.conseq fun D σ H ⟨ρ, O, δ, S, A, h⟩ => h ρ σ H (.refl _ _) A
theorem SS.cont : SS X G W (.Continue pos) sCont := ps_continue.conseq fun D σ H ⟨ρ, O, δ, S, A, h⟩ => h ρ σ H (.refl _ _) A
theorem SS.brk : SS X G W (.Break pos) sBreak := ps_break.conseq fun D σ H ⟨ρ, O, δ, S, A, h⟩ => h ρ σ H (.refl _ _) A
theorem SS.set {i : Nat} {x : Str} {pos' : Pos} (hN : X.N.Nodup) (hi : X.N[i]? = some x) (hx : Loc X.env.scope x) (he : SE X G W a ea) (hs : swapsWith a (some (.Name x pos')) pos.line X.env = pure false := by rfl) (hf : X.fn x = true ∨ X.env.scope.names.lookup x = some .local := by first | exact .inl rfl | exact .inr rfl | assumption) :
    SS X G W (.Assign [.Name x pos'] a pos) (sSet i ea) :=
  (ps_set hN hi hx he hs hf).conseq fun D σ H ⟨ρ, O, δ, S, A, h⟩ => Post.ofO A h fun d S1 ρ1 v H1 h1 s1 A1 r1 => h1 ρ1 _ H1 (.refl _ _) (A1.set i r1)
theorem SS.ret (he : SE X G W a ea) : SS X G W (.Return (some a) pos) (sRet ea) :=
  (ps_ret he).conseq fun D σ H ⟨ρ, O, δ, S, A, h⟩ => Post.ofO A h fun d S1 ρ1 v H1 h1 s1 A1 r1 => h1 ρ1 v H1 (.refl _ _) A1.st r1
theorem SS.retN : SS X G W (.Return none pos) sRetN := ps_retN.conseq fun D σ H ⟨ρ, O, δ, S, A, h⟩ => h ρ .non H (.refl _ _) A.st .non
theorem SS.expr (he : SE X G W a ea) (hs : swapsWith a none pos.line X.env = pure false := by rfl) : SS X G W (.Expr a pos) (sExpr ea) :=
  (ps_expr he hs).conseq fun D σ H ⟨ρ, O, δ, S, A, h⟩ => Post.ofO A h fun d S1 ρ1 v H1 h1 s1 A1 r1 => h1 ρ1 σ H1 (.refl _ _) A1
theorem SS.ite {sa sb : List Stmt} (hc : ST X G W c tc) (ha : SSs X G W sa es) (hb : SSs X G W sb es') : SS X G W (.If c sa sb pos) (sIf tc es es') :=
  (ps_if hc ha hb).conseq fun D σ H ⟨ρ, O, δ, S, A, h⟩ => PostT.ofO A h fun d S1 ρ1 H1 h1 s1 A1 => by
    split at h1
    · rename_i e; rw [if_pos e]; exact PostS.of A1 h1
    · rename_i e; rw [if_neg e]; exact PostS.of A1 h1

/-! ### targets -/
abbrev Tgt := D → Sl → Sto → Option Sl
def gT (K : PySem.W.Frag) (G : Glo) (ws : List Nat) (t : Tgt) : TG := fun v σ H Q => ∃ ρ O δ S d δ', RelA K G ρ O σ H δ S ∧ RepV K ρ O H v d ∧ t d δ S = some δ' ∧ ∀ σ', RelA K G ρ O σ' H δ' S → σ'.length = σ.length → (∀ j, j ∉ ws → σ'[j]? = σ[j]?) → Q σ' H
abbrev SG (X : Cx) (G : Glo) (tg : Expr) (ws : List Nat) (t : Tgt) : Prop := PG X tg (gT X.K G ws t)
theorem _root_.L2.PG.conseq {X : Cx} {e : Expr} {t u : TG} (h : PG X e t) (c : ∀ v σ H Q, u v σ H Q → t v σ H Q) : PG X e u := ⟨fun pins s σ H v w Q I r q => h.run pins s σ H v w Q I r (c v σ H Q q)⟩
theorem _root_.L2.PGs.conseq {X : Cx} {e : List Expr} {t u : TGs} (h : PGs X e t) (c : ∀ v σ H Q, u v σ H Q → t v σ H Q) : PGs X e u := ⟨fun pins s σ H v w Q I r q => h.run pins s σ H v w Q I r (c v σ H Q q)⟩
def tNm (i : Nat) : Tgt := fun d δ _ => some (δ.set i (some d))
theorem SG.name {i : Nat} {x : Str} (hN : X.N.Nodup) (hi : X.N[i]? = some x) (hx : Loc X.env.scope x) (hf : X.fn x = true ∨ X.env.scope.names.lookup x = some .local := by first | exact .inl rfl | exact .inr rfl | assumption) : SG X G (.Name x pos) [i] (tNm i) :=
  (pg_name hN hi hx hf).conseq fun v σ H Q ⟨ρ, O, δ, S, d, δ', A, r, e, k⟩ => by
    cases e
    exact k _ (A.set i r) (List.length_set ..) fun j hj => List.getElem?_set_ne (fun z => hj (by rw [z]; exact List.mem_singleton.mpr rfl))
abbrev Tgts := List D → Sl → Sto → Option Sl
def gTs (K : PySem.W.Frag) (G : Glo) (ws : List Nat) (t : Tgts) : TGs := fun vs σ H Q => ∃ ρ O δ S ds δ', RelA K G ρ O σ H δ S ∧ RepL K ρ O H vs ds ∧ t ds δ S = some δ' ∧ ∀ σ', RelA K G ρ O σ' H δ' S → σ'.length = σ.length → (∀ j, j ∉ ws → σ'[j]? = σ[j]?) → Q σ' H
abbrev SGs (X : Cx) (G : Glo) (tg : List Expr) (ws : List Nat) (t : Tgts) : Prop := PGs X tg (gTs X.K G ws t)
def tNil' : Tgts := fun ds δ _ => match ds with
  | [] => some δ
  | _ => none
def tCons' (t : Tgt) (u : Tgts) : Tgts := fun ds δ S => match ds with
  | d :: r => (t d δ S).bind fun δ1 => u r δ1 S
  | [] => none
theorem SGs.nil : SGs X G [] [] tNil' := pgs_nil.conseq fun vs σ H Q ⟨ρ, O, δ, S, ds, δ', A, r, e, k⟩ => by
  cases ds with
  | nil => cases r; cases e; exact ⟨rfl, k _ A rfl fun _ _ => rfl⟩
  | cons => cases e
theorem SGs.cons {t : Tgt} {u : Tgts} {ws ws' : List Nat} {tg : Expr} {tgs : List Expr} (h1 : SG X G tg ws t) (h2 : SGs X G tgs ws' u) (hs : (assignEach (tg :: tgs) X.env).map (·.2) = assign tg X.env :: (assignEach tgs X.env).map (·.2) := by rfl) : SGs X G (tg :: tgs) (ws ++ ws') (tCons' t u) :=
  (pgs_cons h1 h2 hs).conseq fun vs σ H Q ⟨ρ, O, δ, S, ds, δ', A, r, e, k⟩ => by
    cases r with
    | nil => cases e
    | @cons v d vs ds r0 rt =>
      have e' : ((t d δ S).bind fun δ1 => u ds δ1 S) = some δ' := e
      cases h1 : t d δ S with
      | none => rw [h1] at e'; cases e'
      | some δ1 =>
        rw [h1] at e'
        exact ⟨v, vs, rfl, ρ, O, δ, S, d, δ1, A, r0, h1, fun σ1 A1 l1 q1 => ⟨ρ, O, δ1, S, ds, δ', A1, rt, e', fun σ2 A2 l2 q2 => k σ2 A2 (l2.trans l1) fun j hj => (q2 j fun z => hj (List.mem_append_right _ z)).trans (q1 j fun z => hj (List.mem_append_left _ z))⟩⟩
def tTup (u : Tgts) : Tgt := fun d δ S => match d with
  | .tup ds => u ds δ S
  | d => (asL S d).bind fun ds => u ds δ S
theorem _root_.L2.PG.or {X : Cx} {e : Expr} {t u : TG} (h : PG X e t) (h' : PG X e u) : PG X e (fun v σ H Q => t v σ H Q ∨ u v σ H Q) := ⟨fun pins s σ H v w Q I r q => q.elim (h.run pins s σ H v w Q I r) (h'.run pins s σ H v w Q I r)⟩
theorem SG.tup {u : Tgts} {ws : List Nat} {tgs : List Expr} {n k : Nat} (hc : X.calm = true) (h : SGs X G tgs ws u) (hu : ∀ ds δ S δ', u ds δ S = some δ' → ds.length = n) (hn : (assignEach tgs X.env).length = n := by rfl) (hst : (assignEach tgs X.env).findIdx? (·.1) = none := by rfl) : SG X G (.Tuple tgs k pos) ws (Mp.tTup u) :=
  ((pg_tup hc h hn hst).or (pg_lst hc h hn hst)).conseq fun v σ H Q ⟨ρ, O, δ, S, d, δ', A, r, e, k⟩ => by
    unfold Mp.tTup at e
    split at e
    · rename_i ds
      obtain ⟨a, vs, rfl, h1, q⟩ := r.of_tup
      exact .inl ⟨a, vs, rfl, h1, by rw [q.ix.1]; exact hu _ _ _ _ e, ρ, O, δ, S, ds, δ', A, q, e, k⟩
    · cases h0 : asL S d with
      | none => rw [h0] at e; cases e
      | some ds =>
        rw [h0] at e
        obtain ⟨a, vs, rfl, h1, q⟩ := asL_rep A.st r h0
        exact .inr ⟨a, vs, rfl, .of h1, by rw [q.ix.1]; exact hu _ _ _ _ e, ρ, O, δ, S, ds, δ', A, q, e, k⟩
theorem tNil_len : ∀ ds δ S δ', tNil' ds δ S = some δ' → ds.length = 0 := by
  intro ds δ S δ' h
  cases ds with
  | nil => rfl
  | cons => cases h
theorem tCons_len {t : Tgt} {u : Tgts} {n : Nat} (h : ∀ ds δ S δ', u ds δ S = some δ' → ds.length = n) : ∀ ds δ S δ', tCons' t u ds δ S = some δ' → ds.length = n + 1 := by
  intro ds δ S δ' e
  cases ds with
  | nil => cases e
  | cons d r =>
    have e' : ((t d δ S).bind fun δ1 => u r δ1 S) = some δ' := e
    cases h1 : t d δ S with
    | none => rw [h1] at e'; cases e'
    | some δ1 => rw [h1] at e'; rw [List.length_cons, h _ _ _ _ e']
/-- target = value -/
def sAsg (t : Tgt) (a : Ev) : EvS := fun δ S => (a δ S).out δ fun d S1 => match t d δ S1 with
  | some δ1 => .nx δ1 S1
  | none => .bad
theorem SS.asg {t : Tgt} {ws : List Nat} {tg : Expr} (he : SE X G W a ea) (hg : SG X G tg ws t) (hs : swapsWithSole [tg] a pos.line X.env = pure false := by rfl) (hw : swappedStores [tg] a X.env = pure none := by rfl)
    (h1 : (assignEach [tg] X.env).map (·.2) = [assign tg X.env] := by rfl) : SS X G W (.Assign [tg] a pos) (sAsg t ea) :=
  (ps_asg he hg hs hw h1).conseq fun D σ H ⟨ρ, O, δ, S, A, h⟩ => Post.ofO A h fun d S1 ρ1 v H1 h1 s1 A1 r1 => by
    split at h1
    · rename_i δ1 e
      exact ⟨ρ1, O, δ, S1, d, δ1, A1, r1, e, fun σ' A' _ _ => h1 ρ1 σ' H1 (.refl _ _) A'⟩
    · exact h1.elim
/-- a, b = x, y, stored from the right -/
def sPar (i j : Nat) (a b : Ev) : EvS := fun δ S => (a δ S).out δ fun d S1 => (b δ S1).out δ fun e S2 => .nx ((δ.set i (some d)).set j (some e)) S2
theorem SS.par {i j : Nat} {x y : Str} {px py pt : Pos} {kt k2 pt2} (hc : X.calm = true) (hN : X.N.Nodup) (hi : X.N[i]? = some x) (hj : X.N[j]? = some y) (hij : i ≠ j)
    (hx : X.env.scope.names.lookup x = some .local) (hy : X.env.scope.names.lookup y = some .local) (ha : SE X G W a ea) (hb : SE X G W b eb)
    (hw : swappedStores [.Tuple [.Name x px, .Name y py] kt pt] (.Tuple [a, b] k2 pt2) X.env = pure (some [x, y]))
    (hs1 : starEach [a, b] X.env = (false, eval a X.env) :: starEach [b] X.env := by rfl) (hs2 : starEach [b] X.env = (false, eval b X.env) :: starEach [] X.env := by rfl)
    (hs : swapsWithSole [.Tuple [.Name x px, .Name y py] kt pt] (.Tuple [a, b] k2 pt2) pos.line X.env = pure false := by rfl) :
    SS X G W (.Assign [.Tuple [.Name x px, .Name y py] kt pt] (.Tuple [a, b] k2 pt2) pos) (sPar i j ea eb) :=
  (ps_par hc hN hi hj hij hx hy (pa_cons ha (pa_cons hb pa_nil hs2) hs1) hw hs).conseq fun D σ H ⟨ρ, O, δ, S, A, h⟩ => Post.ofO A h fun d S1 ρ1 v H1 h1 s1 A1 r1 =>
    Post.ofO A1 h1 fun e S2 ρ2 w H2 h2 s2 A2 r2 => ⟨v, w, rfl, h2 ρ2 _ H2 (.refl _ _) ((A2.set i (r1.mono A1.st s2)).set j r2)⟩
/-- name op= value -/
def sAug (i : Nat) (g : Sto → D → D → Option D) (a : Ev) : EvS := fun δ S => match δ[i]? with
  | some (some d) => (a δ S).out δ fun e S1 => match g S1 d e with
    | some z => .nx (δ.set i (some z)) S1
    | none => .bad
  | _ => .bad
theorem SS.aug {i : Nat} {x : Str} {op : Operator} {g : Sto → D → D → Option D} {pos' : Pos} (hN : X.N.Nodup) (hi : X.N[i]? = some x) (hx : Loc X.env.scope x) (he : SE X G W a ea) (ho : OpR X (inplaceOp op) (rD X.K g)) (hf : X.fn x = true ∨ X.env.scope.names.lookup x = some .local := by first | exact .inl rfl | exact .inr rfl | assumption) :
    SS X G W (.AugAssign (.Name x pos') op a pos) (sAug i g ea) :=
  (ps_aug (ti := rD X.K g) hN hi hx he (fun pins s σ H x y v u Q I rx ry h => ho pins s σ H x y v u Q I rx ry h) hf).conseq fun D σ H ⟨ρ, O, δ, S, A, h⟩ => by
    unfold sAug at h
    split at h
    · rename_i d e
      obtain ⟨v, e1, r⟩ := A.slot i d e
      refine ⟨v, e1, Post.ofO A h fun d2 S1 ρ1 w H1 h1 s1 A1 r1 => ?_⟩
      split at h1
      · rename_i z hz
        exact ⟨ρ1, O, S1, d, d2, z, A1.st, r.mono A.st s1, r1, hz, fun v' H3 s3 R3 r3 => h1 ρ1 _ H3 s3 ((A1.of s3 R3).set i r3)⟩
      · exact h1.elim
    · exact h.elim
end
end Mp

/-! Mp, part 6: loops and comprehensions. -/
namespace Mp
open PySem PySem.Spec L2
open PyProof.Rows hiding St

/-- what is walked: the items, and the object that must stay as it is -/
abbrev Items := List D × Option Nat
def okS (it : Items) (S : Sto) : Prop := match it.2 with
  | none => True
  | some n => S[n]? = some (.lst it.1)
abbrev Src := Sl → Sto → Res Items
section
variable {K : PySem.W.Frag} {ρ ρ' O O' : List Addr} {H H' : Hp} {S S' : Sto} {v : V} {d : D} {vs : List V} {ds : List D} {σ : St} {δ : Sl}
theorem RepV.bars (h : ∀ p ∈ O', p ∈ O ∨ H p = none) (r : RepV K ρ O H v d) : RepV K ρ O' H v d := by
  induction r with
  | non => exact .non
  | bl b => exact .bl b
  | int i => exact .int i
  | str x => exact .str x
  | tup h hl hi ih => exact .tup h hl ih
  | lst h1 hr ho hl hi ih =>
    refine .lst h1 hr (fun q => ?_) hl ih
    rcases h _ q with q | q
    · exact ho q
    · rw [q] at h1; cases h1
  | loc h => exact .loc h
  | scr h => exact .scr h
  | exn h1 hr ho hx hxr hxo _ ih =>
    refine .exn h1 hr (fun q => ?_) hx hxr (fun q => ?_) ih
    · rcases h _ q with q | q
      · exact ho q
      · rw [q] at h1; cases h1
    · rcases h _ q with q | q
      · exact hxo q
      · rw [q] at hx; cases hx
theorem RepL.bars (h : ∀ p ∈ O', p ∈ O ∨ H p = none) (r : RepL K ρ O H vs ds) : RepL K ρ O' H vs ds := by
  induction r with
  | nil => exact .nil
  | cons r _ ih => exact .cons (r.bars h) ih
/-- an iterator that gives the items -/
structure ItR (K : PySem.W.Frag) (ρ0 : List Addr) (H0 : Hp) (O : List Addr) (J : It) (it : Items) : Prop where
  go : ∀ ρ O' S H i, Stp ρ0 H0 ρ H → (∀ p ∈ O', p ∈ O ∨ H0 p = none) → RelS K ρ O' H S → okS it S → i < it.1.length → J.go i H
  yld : ∀ ρ O' S H i x H' d, Stp ρ0 H0 ρ H → (∀ p ∈ O', p ∈ O ∨ H0 p = none) → RelS K ρ O' H S → okS it S → it.1[i]? = some d → J.yld i H x H' → Stp ρ H ρ H' ∧ RelS K ρ O' H' S ∧ RepV K ρ O' H' x d
  stop : ∀ ρ O' S H i, Stp ρ0 H0 ρ H → (∀ p ∈ O', p ∈ O ∨ H0 p = none) → RelS K ρ O' H S → okS it S → it.1.length ≤ i → J.stop i H
def PostI (K : PySem.W.Frag) (G : Glo) (W : WX) (src : Src) : TI := fun σ H R => ∃ ρ O δ S, RelA K G ρ O σ H δ S ∧
  (src δ S).To (fun it S' => ∀ ρ' H' J, Stp ρ H ρ' H' → RelA K G ρ' O σ H' δ S' → ItR K ρ' H' O J it → R J H') (PX K G W ρ O σ H δ)
end
abbrev SI (X : Cx) (G : Glo) (W : WX) (tg iter : Expr) (src : Src) : Prop := PI X tg iter (PostI X.K G W src)
theorem _root_.L2.PI.conseq {X : Cx} {tg e : Expr} {t u : TI} (h : PI X tg e t) (c : ∀ σ H Q, u σ H Q → t σ H Q) : PI X tg e u := ⟨fun pins s σ H Q I q => h.run pins s σ H Q I (c σ H Q q)⟩
theorem _root_.L2.PI.or {X : Cx} {tg e : Expr} {t u : TI} (h : PI X tg e t) (h' : PI X tg e u) : PI X tg e (fun σ H Q => t σ H Q ∨ u σ H Q) := ⟨fun pins s σ H Q I q => q.elim (h.run pins s σ H Q I) (h'.run pins s σ H Q I)⟩

/-! ### lists and tuples walked -/
def itemsOf (S : Sto) : D → Option Items
  | .tup ds => some (ds, none)
  | .lst ds => some (ds, none)
  | .loc n => match S[n]? with
    | some (.lst ds) => some (ds, some n)
    | _ => none
  | .scr ns => some (ns.map .int, none)
  | .str z => some (z.map (fun c => .str [c]), none)
  | _ => none
def iSeq (a : Ev) : Src := fun δ S => (a δ S).bind fun d S1 => match itemsOf S1 d with
  | some it => .ok it S1
  | none => .bad
theorem repL_get {K : PySem.W.Frag} {ρ O : List Addr} {H : Hp} {vs : List V} {ds : List D} {i : Nat} {d : D} (r : RepL K ρ O H vs ds) (h : ds[i]? = some d) : ∃ v, vs[i]? = some v ∧ RepV K ρ O H v d := by
  have hl := (List.getElem?_eq_some_iff.mp h).1
  have hl2 : i < vs.length := by rw [r.ix.1]; exact hl
  exact ⟨vs[i], List.getElem?_eq_getElem hl2, r.ix.2 i _ d (List.getElem?_eq_getElem hl2) h⟩
theorem repL_lt {K : PySem.W.Frag} {ρ O : List Addr} {H : Hp} {vs : List V} {ds : List D} {i : Nat} (r : RepL K ρ O H vs ds) (h : i < ds.length) : ∃ v, vs[i]? = some v :=
  ⟨_, List.getElem?_eq_getElem (by rw [r.ix.1]; exact h)⟩
section
variable {K : PySem.W.Frag} {ρ ρ' O O' : List Addr} {H H' : Hp} {S S' : Sto} {v : V} {d : D} {vs : List V} {ds : List D} {σ : St} {δ : Sl} {a : Addr}
theorem itr_tup (R : RelS K ρ O H S) (h : SqT K H a vs) (r : RepL K ρ O H vs ds) : ItR K ρ H O (Itt K a) (ds, none) where
  go := fun ρ1 O1 S1 H1 i s _ R1 _ hi => by
    obtain ⟨v, hv⟩ := repL_lt r hi
    exact ⟨vs, v, SqT.step (fun _ h => R.mut h) s h, hv⟩
  yld := fun ρ1 O1 S1 H1 i x H2 d s hO R1 _ hd hy => by
    obtain ⟨rfl, k⟩ := hy
    obtain ⟨v, hv, rv⟩ := repL_get r hd
    have e := k vs (SqT.step (fun _ h => R.mut h) s h)
    rw [hv] at e; cases e
    exact ⟨.refl _ _, R1, (rv.bars hO).monoM (fun _ h => R.mut h) s⟩
  stop := fun ρ1 O1 S1 H1 i s _ R1 _ hi => ⟨vs, SqT.step (fun _ h => R.mut h) s h, by rw [r.ix.1]; exact hi⟩
theorem itr_lst (R : RelS K ρ O H S) (h : H a = some (.lst vs)) (na : a ∉ ρ) (r : RepL K ρ O H vs ds) : ItR K ρ H O (Itl K a) (ds, none) where
  go := fun ρ1 O1 S1 H1 i s _ R1 _ hi => by
    obtain ⟨v, hv⟩ := repL_lt r hi
    exact ⟨vs, v, .of (s.old _ _ h na), hv⟩
  yld := fun ρ1 O1 S1 H1 i x H2 d s hO R1 _ hd hy => by
    obtain ⟨rfl, k⟩ := hy
    obtain ⟨v, hv, rv⟩ := repL_get r hd
    have e := k vs (.of (s.old _ _ h na))
    rw [hv] at e; cases e
    exact ⟨.refl _ _, R1, (rv.bars hO).monoM (fun _ h => R.mut h) s⟩
  stop := fun ρ1 O1 S1 H1 i s _ R1 _ hi => ⟨vs, .of (s.old _ _ h na), by rw [r.ix.1]; exact hi⟩
theorem itr_loc {n : Nat} (hn : ρ[n]? = some a) : ItR K ρ H O (Itl K a) (ds, some n) where
  go := fun ρ1 O1 S1 H1 i s _ R1 hg hi => by
    cases R1.cell n a _ (s.get hn) hg with
    | lst h r =>
      obtain ⟨v, hv⟩ := repL_lt r hi
      exact ⟨_, v, .of h, hv⟩
  yld := fun ρ1 O1 S1 H1 i x H2 d s hO R1 hg hd hy => by
    obtain ⟨rfl, k⟩ := hy
    cases R1.cell n a _ (s.get hn) hg with
    | lst h r =>
      obtain ⟨v, hv, rv⟩ := repL_get r hd
      have e := k _ (.of h)
      rw [hv] at e; cases e
      exact ⟨.refl _ _, R1, rv⟩
  stop := fun ρ1 O1 S1 H1 i s _ R1 hg hi => by
    cases R1.cell n a _ (s.get hn) hg with
    | lst h r => exact ⟨_, .of h, by rw [r.ix.1]; exact hi⟩
theorem itr_scr {ns : List Int} (R : RelS K ρ O H S) (h : SqF K H a (ns.map V.int)) : ItR K ρ H O (Itl K a) (ns.map .int, none) := by
  have st : ∀ {ρ1 H1}, Stp ρ H ρ1 H1 → SqL K H1 a (ns.map V.int) := fun s => SqF.seq (h.elim (fun ⟨o, e⟩ => .inl ⟨o, s.old _ _ e (MutL.nofrzL (fun _ h => R.mut h) e)⟩) .inr)
  refine ⟨fun ρ1 O1 S1 H1 i s _ R1 _ hi => ?_, fun ρ1 O1 S1 H1 i x H2 d s hO R1 _ hd hy => ?_, fun ρ1 O1 S1 H1 i s _ R1 _ hi => ?_⟩
  · have hi' : i < ns.length := by simpa using hi
    exact ⟨_, .int ns[i], st s, by rw [List.getElem?_map, List.getElem?_eq_getElem hi']; rfl⟩
  · obtain ⟨rfl, k⟩ := hy
    have e := k _ (st s)
    simp only [List.getElem?_map] at hd e
    cases q : ns[i]? with
    | none => rw [q] at hd; cases hd
    | some z =>
      rw [q] at hd e
      cases hd; cases e
      exact ⟨.refl _ _, R1, .int z⟩
  · exact ⟨_, st s, by simpa using hi⟩
end
section
variable {X : Cx} {G : Glo} {W : WX} {tg a b c : Expr} {ea eb ec : Ev} {pos : Pos}
theorem itr_str {K : PySem.W.Frag} {ρ O : List Addr} {H : Hp} {z : List Nat} : ItR K ρ H O (Its (tx z)) (z.map (fun c => .str [c]), none) := by
  have es : (tx z).cps.size = z.length := by unfold tx; simp
  refine ⟨fun ρ1 O1 S1 H1 i s _ R1 _ hi => ?_, fun ρ1 O1 S1 H1 i x H2 d s hO R1 _ hd hy => ?_, fun ρ1 O1 S1 H1 i s _ R1 _ hi => ?_⟩
  · show i < (tx z).cps.size
    rw [es]; simpa using hi
  · obtain ⟨rfl, c, hc, rfl⟩ := hy
    have e : (tx z).cps[i]? = z[i]? := by unfold tx; simp
    rw [e] at hc
    simp only [List.getElem?_map, hc] at hd
    cases hd
    exact ⟨.refl _ _, R1, .str [c]⟩
  · show (tx z).cps.size ≤ i
    rw [es]; simpa using hi
def kindI : D → Nat
  | .tup _ => 0
  | .str _ => 1
  | _ => 2
theorem SI.seq (ha : SE X G W a ea) : SI X G W tg a (iSeq ea) :=
  ((pi_list ha).or ((pi_tup ha).or (pi_str ha))).conseq fun σ H R ⟨ρ, O, δ, S, A, h⟩ => by
    have key : ∀ d S1, (match itemsOf S1 d with | some it => Res.ok it S1 | none => .bad : Res Items).To (fun it S' => ∀ ρ' H' J, Stp ρ H ρ' H' → RelA X.K G ρ' O σ H' δ S' → ItR X.K ρ' H' O J it → R J H') (PX X.K G W ρ O σ H δ) →
        ∀ ρ1 v H1, Stp ρ H ρ1 H1 → RelA X.K G ρ1 O σ H1 δ S1 → RepV X.K ρ1 O H1 v d →
        (kindI d = 0 → ∃ a, v = .ref a ∧ (∃ xs, SqT X.K H1 a xs) ∧ R (Itt X.K a) H1) ∧ (kindI d = 1 → ∃ x, v = .str x ∧ R (Its x) H1) ∧ (kindI d = 2 → ∃ a, v = .ref a ∧ (∃ xs, SqL X.K H1 a xs) ∧ R (Itl X.K a) H1) := by
      intro d S1 hh ρ1 v H1 s1 A1 r1
      refine ⟨fun hd => ?_, fun hd => ?_, fun hd => ?_⟩
      · cases d with
        | tup ds =>
          obtain ⟨a, vs, rfl, h1, q⟩ := r1.of_tup
          exact ⟨a, rfl, ⟨vs, h1⟩, hh ρ1 H1 _ s1 A1 (itr_tup A1.st h1 q)⟩
        | _ => cases hd
      · cases d with
        | str z =>
          cases r1
          exact ⟨_, rfl, hh ρ1 H1 _ s1 A1 itr_str⟩
        | _ => cases hd
      · cases d with
        | tup ds => cases hd
        | str ds => cases hd
        | lst ds =>
          obtain ⟨a, vs, rfl, h1, h2, h3, q⟩ := r1.of_lst
          exact ⟨a, rfl, ⟨vs, .of h1⟩, hh ρ1 H1 _ s1 A1 (itr_lst A1.st h1 h2 q)⟩
        | loc n =>
          obtain ⟨a, rfl, hn⟩ := r1.of_loc
          unfold itemsOf at hh
          cases e : S1[n]? with
          | none => simp only [e] at hh; exact hh.elim
          | some c =>
            cases c with
            | lst ds =>
              simp only [e] at hh
              cases A1.st.cell n a _ hn e with
              | lst h r => exact ⟨a, rfl, ⟨_, .of h⟩, hh ρ1 H1 _ s1 A1 (itr_loc hn)⟩
            | dct _ _ _ => simp only [e] at hh; exact hh.elim
            | obj _ _ => simp only [e] at hh; exact hh.elim
        | scr ns =>
          cases r1 with
          | scr h => exact ⟨_, rfl, ⟨_, h.seq⟩, hh ρ1 H1 _ s1 A1 (itr_scr A1.st h)⟩
        | _ => exact hh.elim
    have h' := Res.To.bind h
    generalize ee : ea δ S = r at h'
    cases r with
    | bad => exact h'.elim
    | exc x S1 =>
      refine .inl ⟨ρ, O, δ, S, A, ?_⟩
      rw [ee]; exact h'
    | ok d S1 =>
      have hk : kindI d = 0 ∨ kindI d = 1 ∨ kindI d = 2 := by cases d <;> simp [kindI]
      rcases hk with hd | hd | hd
      · refine .inr (.inl ⟨ρ, O, δ, S, A, ?_⟩)
        rw [ee]
        exact fun ρ1 v H1 s1 A1 r1 => (key d S1 h' ρ1 v H1 s1 A1 r1).1 hd
      · refine .inr (.inr ⟨ρ, O, δ, S, A, ?_⟩)
        rw [ee]
        exact fun ρ1 v H1 s1 A1 r1 => (key d S1 h' ρ1 v H1 s1 A1 r1).2.1 hd
      · refine .inl ⟨ρ, O, δ, S, A, ?_⟩
        rw [ee]
        exact fun ρ1 v H1 s1 A1 r1 => (key d S1 h' ρ1 v H1 s1 A1 r1).2.2 hd
/-! ### ranges -/
def rngL (lo : Int) : Nat → List D
  | 0 => []
  | n + 1 => .int lo :: rngL (lo + 1) n
theorem rngL_len (n : Nat) : ∀ lo, (rngL lo n).length = n := by
  induction n with
  | zero => intro lo; rfl
  | succ n ih => intro lo; simp [rngL, ih]
theorem rngL_get (n : Nat) : ∀ (lo : Int) (i : Nat) (d : D), (rngL lo n)[i]? = some d → d = .int (lo + i) := by
  induction n with
  | zero => intro lo i d h; simp [rngL] at h
  | succ n ih =>
    intro lo i d h
    cases i with
    | zero => simp [rngL] at h; subst h; simp
    | succ i =>
      have := ih (lo + 1) i d (by simpa [rngL] using h)
      rw [this]; congr 1; omega
theorem itr_rng {K : PySem.W.Frag} {ρ O : List Addr} {H : Hp} {lo : Int} {n : Nat} : ItR K ρ H O (Itr lo n) (rngL lo n, none) where
  go := fun ρ1 O1 S1 H1 i s _ R1 _ hi => by rw [rngL_len] at hi; exact hi
  yld := fun ρ1 O1 S1 H1 i x H2 d s hO R1 _ hd hy => by
    obtain ⟨rfl, e⟩ := hy
    subst e
    rw [rngL_get n lo i d hd]
    exact ⟨.refl _ _, R1, .int _⟩
  stop := fun ρ1 O1 S1 H1 i s _ R1 _ hi => by rw [rngL_len] at hi; exact hi
abbrev bnd (i : Int) : Prop := -(2 ^ 62) ≤ i ∧ i < 2 ^ 62
def iRng1' (a : Ev) : Src := fun δ S => (a δ S).bind fun d S1 => match d with
  | .int j => if bnd j then .ok (rngL 0 j.toNat, none) S1 else .bad
  | _ => .bad
def iRng2' (a b : Ev) : Src := fun δ S => (a δ S).bind fun d S1 => (b δ S1).bind fun e S2 => match d, e with
  | .int i, .int j => if bnd i ∧ bnd j then .ok (rngL i (j - i).toNat, none) S2 else .bad
  | _, _ => .bad
theorem SI.rng1 {p : Pos} (hg : Gl X "range") (hm : X.mg "range" = none) (ha : SE X G W a ea) (hs : starEach [a] X.env = [(false, eval a X.env)] := by rfl) : SI X G W tg (.Call (.Name "range" p) [a] [] pos) (iRng1' ea) :=
  (pi_range1 hg hm (pa_cons ha pa_nil hs) hs).conseq fun σ H R ⟨ρ, O, δ, S, A, h⟩ => Post.run A h fun d S1 ρ1 v H1 h1 s1 A1 r1 => by
    split at h1
    · split at h1
      · rename_i hb
        cases r1
        exact ⟨_, rfl, hb.1, hb.2, h1 ρ1 H1 _ s1 A1 itr_rng⟩
      · exact h1.elim
    · exact h1.elim
theorem SI.rng2 {p : Pos} (hg : Gl X "range") (hm : X.mg "range" = none) (ha : SE X G W a ea) (hb : SE X G W b eb) (hs : starEach [a, b] X.env = [(false, eval a X.env), (false, eval b X.env)] := by rfl) (hs1 : starEach [a, b] X.env = (false, eval a X.env) :: starEach [b] X.env := by rfl) (hs2 : starEach [b] X.env = [(false, eval b X.env)] := by rfl) : SI X G W tg (.Call (.Name "range" p) [a, b] [] pos) (iRng2' ea eb) :=
  (pi_range2 hg hm (pa_cons ha (pa_cons hb pa_nil hs2) hs1) hs hs2).conseq fun σ H R ⟨ρ, O, δ, S, A, h⟩ => Post.run A h fun d S1 ρ1 v H1 h1 s1 A1 r1 =>
    ⟨ρ1, O, δ, S1, A1, (Res.To.bind h1).imp (fun e S2 hh ρ2 w H2 s2 A2 r2 => by
      split at hh
      · split at hh
        · rename_i hb
          cases r1; cases r2
          exact ⟨_, _, rfl, ⟨hb.1.1, hb.1.2, hb.2.1, hb.2.2⟩, hh ρ2 H2 _ (s1.trans s2) A2 itr_rng⟩
        · exact hh.elim
      · exact hh.elim) fun _ _ e => PX.mono e s1⟩
end
end Mp

/-! Mp, part 7: for, while, list comprehensions. -/
namespace Mp
open PySem PySem.Spec L2
open PyProof.Rows hiding St
open Classical

/-! ### for -/
noncomputable def forL (it : Items) (t : Tgt) (body : EvS) : List D → Sl → Sto → Out
  | [], δ, S => if okS it S then .nx δ S else .bad
  | d :: ds, δ, S => if okS it S then (match t d δ S with
    | some δ1 => match body δ1 S with
      | .nx δ2 S2 => forL it t body ds δ2 S2
      | .ct δ2 S2 => forL it t body ds δ2 S2
      | .bk δ2 S2 => .nx δ2 S2
      | .rt d S2 => .rt d S2
      | .ex x δ2 S2 => .ex x δ2 S2
      | .bad => .bad
    | none => .bad) else .bad
noncomputable def sFor (src : Src) (t : Tgt) (body : EvS) : EvS := fun δ S => (src δ S).out δ fun it S1 => forL it t body it.1 δ S1
section
variable {X : Cx} {G : Glo} {W : WX} {tg a b c iter : Expr} {ea eb ec : Ev} {tc : EvB} {src : Src} {t : Tgt} {ws : List Nat} {body : List Stmt} {eb' : EvS} {pos : Pos}
theorem drop_cons {α : Type} {l : List α} {i : Nat} {d : α} {r : List α} (h : l.drop i = d :: r) : l[i]? = some d ∧ l.drop (i + 1) = r := by
  have h1 : (l.drop i)[0]? = some d := by rw [h]; rfl
  rw [List.getElem?_drop] at h1
  refine ⟨by simpa using h1, ?_⟩
  have h2 : (l.drop i).drop 1 = r := by rw [h]; rfl
  rw [List.drop_drop] at h2
  exact h2
theorem SS.for (hp : PassesOwn (model X.prog X.w) X.A X.env X.xe) (hc : X.calm = true) (hi : SI X G W tg iter src) (hg : SG X G tg ws t) (hb : SSs X G W body eb')
    (hs : ∀ x, foldedSetIterable iter X.env x = pure x := by intro _; rfl) : SS X G W (.For tg iter body [] pos) (sFor src t eb') :=
  (ps_for hp hc hi hg hb hs).conseq fun D σ H ⟨ρ, O, δ, S, A, h⟩ => by
    refine ⟨ρ, O, δ, S, A, (out_to h).imp (fun it S1 hh ρ1 H1 J s1 A1 I => ?_) fun _ _ e => e⟩
    have hh1 := hh.later s1
    refine ⟨fun i m σ' H' => m = it.1.length - i ∧ i ≤ it.1.length ∧ ∃ ρ' δ' S', Stp ρ1 H1 ρ' H' ∧ RelA X.K G ρ' O σ' H' δ' S' ∧ OT X.K G W ρ' O H' D (forL it t eb' (it.1.drop i) δ' S'),
      ⟨_, rfl, Nat.zero_le _, ρ1, δ, S1, .refl _ _, A1, by rw [List.drop_zero]; exact hh1⟩, fun i m σ2 H2 hW => ?_⟩
    obtain ⟨em, hle, ρ2, δ2, S2, s2, A2, h2⟩ := hW
    cases hd : it.1.drop i with
    | nil =>
      rw [hd] at h2
      unfold forL at h2
      split at h2
      · rename_i hok
        have hn : it.1.length ≤ i := by
          have := congrArg List.length hd
          simp at this; omega
        exact .inl ⟨I.stop ρ2 O S2 H2 i s2 (fun p hp => .inl hp) A2.st hok hn, h2 ρ2 σ2 H2 (.refl _ _) A2⟩
      · exact h2.elim
    | cons d r =>
      obtain ⟨hd1, hd2⟩ := drop_cons hd
      rw [hd] at h2
      unfold forL at h2
      split at h2
      · rename_i hok
        have hlt : i < it.1.length := (List.getElem?_eq_some_iff.mp hd1).1
        refine .inr ⟨I.go ρ2 O S2 H2 i s2 (fun p hp => .inl hp) A2.st hok hlt, fun σ' H' => ∃ ρ' δ' S', Stp ρ2 H2 ρ' H' ∧ RelA X.K G ρ' O σ' H' δ' S' ∧ OT X.K G W ρ' O H' D (forL it t eb' r δ' S'), fun σ3 H3 hN => ?_, fun x H3 hy => ?_⟩
        · obtain ⟨ρ3, δ3, S3, s3, A3, h3⟩ := hN
          exact ⟨it.1.length - (i + 1), by omega, rfl, by omega, ρ3, δ3, S3, s2.trans s3, A3, by rw [hd2]; exact h3⟩
        · obtain ⟨s3, R3, r3⟩ := I.yld ρ2 O S2 H2 i x H3 d s2 (fun p hp => .inl hp) A2.st hok hd1 hy
          have A3 := A2.of s3 R3
          cases ht : t d δ2 S2 with
          | none => simp only [ht] at h2; exact h2.elim
          | some δ3 =>
            simp only [ht] at h2
            refine ⟨ρ2, O, δ2, S2, d, δ3, A3, r3, ht, fun σ4 A4 _ _ => PostS.of A4 ?_⟩
            have h3 := h2.later s3
            generalize eb' δ3 S2 = o at h3
            cases o with
            | nx δ5 S5 => exact fun ρ5 σ5 H5 s5 A5 => ⟨ρ5, δ5, S5, s3.trans s5, A5, OT.later s5 h3⟩
            | ct δ5 S5 => exact fun ρ5 σ5 H5 s5 A5 => ⟨ρ5, δ5, S5, s3.trans s5, A5, OT.later s5 h3⟩
            | bk δ5 S5 => exact h3
            | rt d S5 => exact h3
            | ex x δ S => exact h3
            | bad => exact h3
      · exact h2.elim
/-! ### while -/
def whileL (c : EvB) (body : EvS) : Nat → Sl → Sto → Out
  | 0, _, _ => .bad
  | n + 1, δ, S => (c δ S).out δ fun k S1 => if k = true then (match body δ S1 with
    | .nx δ2 S2 => whileL c body n δ2 S2
    | .ct δ2 S2 => whileL c body n δ2 S2
    | .bk δ2 S2 => .nx δ2 S2
    | .rt d S2 => .rt d S2
    | .ex x δ2 S2 => .ex x δ2 S2
    | .bad => .bad) else .nx δ S1
def sWhile (n : Nat) (c : EvB) (body : EvS) : EvS := whileL c body n
theorem SS.while (n : Nat) (hp : PassesOwn (model X.prog X.w) X.A X.env X.xe) (hc : ST X G W c tc) (hb : SSs X G W body eb') : SS X G W (.While c body [] pos) (sWhile n tc eb') :=
  (ps_while hp hc hb).conseq fun D σ H ⟨ρ, O, δ, S, A, h⟩ => by
    refine ⟨fun m σ' H' => ∃ ρ' δ' S', Stp ρ H ρ' H' ∧ RelA X.K G ρ' O σ' H' δ' S' ∧ OT X.K G W ρ' O H' D (whileL tc eb' m δ' S'), ⟨n, ρ, δ, S, .refl _ _, A, h⟩, fun m σ1 H1 hW => ?_⟩
    obtain ⟨ρ1, δ1, S1, s1, A1, h1⟩ := hW
    cases m with
    | zero => exact h1.elim
    | succ m =>
      refine PostT.ofO A1 h1 fun k S2 ρ2 H2 h2 s2 A2 => ?_
      split at h2
      · rename_i ek
        rw [if_pos ek]
        refine ⟨fun σ' H' => ∃ ρ' δ' S', Stp ρ H ρ' H' ∧ RelA X.K G ρ' O σ' H' δ' S' ∧ OT X.K G W ρ' O H' D (whileL tc eb' m δ' S'), fun σ' H' q => ⟨m, Nat.lt_succ_self _, q⟩, PostS.of A2 ?_⟩
        generalize eb' δ1 S2 = o at h2
        cases o with
        | nx δ5 S5 => exact fun ρ5 σ5 H5 s5 A5 => ⟨ρ5, δ5, S5, s1.trans (s2.trans s5), A5, OT.later s5 h2⟩
        | ct δ5 S5 => exact fun ρ5 σ5 H5 s5 A5 => ⟨ρ5, δ5, S5, s1.trans (s2.trans s5), A5, OT.later s5 h2⟩
        | bk δ5 S5 => exact h2
        | rt d S5 => exact h2
        | ex x δ S => exact h2
        | bad => exact h2
      · rename_i ek
        rw [if_neg ek]
        exact h2 ρ2 σ1 H2 (.refl _ _) A2
end

/-! ### comprehensions -/
def Res.nox {α : Type} (r : Res α) : Res α := match r with
  | .ok a S => .ok a S
  | _ => .bad
def wipeD (δ : Sl) : List Nat → Sl
  | [] => δ
  | v :: vs => (wipeD δ vs).set v none
theorem wipeD_len (δ : Sl) : ∀ vs, (wipeD δ vs).length = δ.length
  | [] => rfl
  | v :: vs => by unfold wipeD; rw [List.length_set, wipeD_len δ vs]
section
variable {K : PySem.W.Frag} {G : Glo} {ρ ρ' O O' : List Addr} {H H' : Hp} {S S' : Sto} {v : V} {d : D} {vs : List V} {ds : List D} {σ : St} {δ : Sl}
theorem RelA.wiped (hG : G.off) (A : RelA K G ρ O σ H δ S) : ∀ ws : List Nat, RelA K G ρ O (wipe σ ws) H (wipeD δ ws) S
  | [] => A
  | w :: ws => by
    have ih := RelA.wiped hG A ws
    refine ⟨A.st, by rw [wipe_length, wipeD_len]; exact A.len, fun i d h => ?_, fun m e => (by rw [hG] at e; cases e), A.hx⟩
    unfold wipeD at h
    by_cases hi : i = w
    · subst hi
      by_cases hl : i < (wipeD δ ws).length
      · rw [List.getElem?_set_self hl] at h; cases h
      · rw [List.getElem?_eq_none (by simpa using hl)] at h; cases h
    · rw [List.getElem?_set_ne (Ne.symm hi)] at h
      obtain ⟨v, h1, h2⟩ := ih.slot i d h
      refine ⟨v, ?_, h2⟩
      show ((wipe σ ws).set w none)[i]? = _
      rw [List.getElem?_set_ne (Ne.symm hi)]; exact h1
theorem wipe_get {σ : St} {i : Nat} : ∀ {ws : List Nat}, i ∉ ws → (wipe σ ws)[i]? = σ[i]?
  | [], _ => rfl
  | w :: ws, h => by
    show ((wipe σ ws).set w none)[i]? = _
    rw [List.getElem?_set_ne (fun e => h (by rw [e]; exact List.mem_cons_self))]
    exact wipe_get fun z => h (List.mem_cons_of_mem _ z)
theorem wipe_at {σ : St} {i : Nat} : ∀ {ws : List Nat}, i ∈ ws → i < σ.length → (wipe σ ws)[i]? = some none
  | w :: ws, h, hl => by
    show ((wipe σ ws).set w none)[i]? = _
    by_cases e : i = w
    · subst e; rw [List.getElem?_set_self (by rw [wipe_length]; exact hl)]
    · rw [List.getElem?_set_ne (Ne.symm e)]
      exact wipe_at ((List.mem_cons.mp h).resolve_left e) hl
theorem wipe_eq {σ τ : St} {ws vs : List Nat} (hs : ∀ j ∈ ws, j ∈ vs) (hl : σ.length = τ.length) (h : ∀ j, j ∉ ws → σ[j]? = (wipe τ vs)[j]?) : wipe σ vs = wipe τ vs := by
  apply List.ext_getElem?
  intro i
  by_cases hi : i ∈ vs
  · by_cases hlt : i < σ.length
    · rw [wipe_at hi hlt, wipe_at hi (by rw [← hl]; exact hlt)]
    · rw [List.getElem?_eq_none (by rw [wipe_length]; omega), List.getElem?_eq_none (by rw [wipe_length]; omega)]
  · rw [wipe_get hi, h i (fun z => hi (hs i z))]
/-- an object in hand is changed -/
theorem RepV.hand {p : Addr} {o : HO} (hp : ∀ xs, H p ≠ some (.tup xs)) (hf : ∀ o u, H p ≠ some (.frz o u)) (r : RepV K ρ (p :: O) H v d) : RepV K ρ (p :: O) (upd H p o) v d := by
  induction r with
  | non => exact .non
  | bl b => exact .bl b
  | int i => exact .int i
  | str x => exact .str x
  | tup h hl hi ih =>
    refine .tup ?_ hl ih
    rcases h with h | h
    · rcases h with h | ⟨q, h⟩
      · exact .inl (.inl (by rw [upd_ne (fun e => hp _ (e ▸ h))]; exact h))
      · exact .inl (.inr ⟨q, by rw [upd_ne (fun e => hf _ _ (e ▸ h))]; exact h⟩)
    · exact .inr h
  | lst h hr ho hl hi ih => exact .lst (by rw [upd_ne (fun e => ho (by rw [e]; exact List.mem_cons_self))]; exact h) hr ho hl ih
  | loc h => exact .loc h
  | scr h => exact .scr (h.elim (fun ⟨q, h⟩ => .inl ⟨q, by rw [upd_ne (fun e => hf _ _ (e ▸ h))]; exact h⟩) .inr)
  | exn h hr ho hx hxr hxo _ ih => exact .exn (by rw [upd_ne (fun e => ho (by rw [e]; exact List.mem_cons_self))]; exact h) hr ho (by rw [upd_ne (fun e => hxo (by rw [e]; exact List.mem_cons_self))]; exact hx) hxr hxo ih
theorem RepL.hand {p : Addr} {o : HO} (hp : ∀ xs, H p ≠ some (.tup xs)) (hf : ∀ o u, H p ≠ some (.frz o u)) (r : RepL K ρ (p :: O) H vs ds) : RepL K ρ (p :: O) (upd H p o) vs ds := by
  induction r with
  | nil => exact .nil
  | cons r _ ih => exact .cons (r.hand hp hf) ih
theorem RelA.hand {p : Addr} {o : HO} (hG : G.off) (hp : ∀ xs, H p ≠ some (.tup xs)) (hf : ∀ o u, H p ≠ some (.frz o u)) (A : RelA K G ρ (p :: O) σ H δ S) : RelA K G ρ (p :: O) σ (upd H p o) δ S := by
  have hpr : p ∉ ρ := (A.st.ho p List.mem_cons_self).2
  refine ⟨⟨A.st.len, A.st.nd, fun n a c h1 h2 => ?_, fun a h => ⟨?_, (A.st.ho a h).2⟩⟩, A.len, fun i d e => let ⟨v, h1, h2⟩ := A.slot i d e; ⟨v, h1, h2.hand hp hf⟩, A.hs, fun m e => (by rw [hG] at e; cases e)⟩
  · have hne : a ≠ p := fun e => hpr (e ▸ List.mem_of_getElem? h1)
    exact (A.st.cell n a c h1 h2).map (fun _ _ q => q.hand hp hf) (upd_ne hne)
  · by_cases e : a = p
    · rw [e, upd_same]; exact fun z => by cases z
    · rw [upd_ne e]; exact (A.st.ho a h).1
end
noncomputable def lcL (it : Items) (t : Tgt) (tc : EvB) (te : Ev) (vs : List Nat) (δ : Sl) : List D → Sto → List D → Res (List D)
  | [], S, acc => if okS it S then .ok acc S else .bad
  | d :: ds, S, acc => if okS it S then (match t d (wipeD δ vs) S with
    | some δ1 => (tc δ1 S).nox.bind fun b S1 => if b = true then (te δ1 S1).nox.bind fun y S2 => if acc.length < 1000000 then lcL it t tc te vs δ ds S2 (acc ++ [y]) else .bad else lcL it t tc te vs δ ds S1 acc
    | none => .bad) else .bad
/-- [te for t in src if tc], vs the places of its own names -/
noncomputable def cLc (src : Src) (t : Tgt) (tc : EvB) (te : Ev) (vs : List Nat) : Sl → Sto → Res (List D) := fun δ S => (src δ S).bind fun it S1 => lcL it t tc te vs δ it.1 S1 []
def tTrue : EvB := fun _ S => .ok true S
abbrev STs (X : Cx) (G : Glo) (W : WX) (ifs : List Expr) (ev : EvB) : Prop := PTs X ifs (PostT X.K G W ev)
abbrev W0 : WX := fun _ _ _ _ => False
section
variable {X : Cx} {G : Glo} {W : WX} {tg a b c iter elt : Expr} {ea eb ec te : Ev} {tc : EvB} {src : Src} {t : Tgt} {ws : List Nat} {pos : Pos} {ifs : List Expr} {scope : Scope} {own : List (Str × Nat)}
theorem STs.nil : STs X G W [] tTrue := ⟨fun pins s σ H Q I ⟨ρ, O, δ, S, A, h⟩ => pts_nil.run pins s σ H Q I (h ρ H (.refl _ _) A)⟩
theorem STs.one (h : ST X G W c tc) : STs X G W [c] tc := pts_one h
theorem nox_to {α : Type} {r : Res α} {f : α → Sto → Res β} {P : β → Sto → Prop} {E : Exn → Sto → Prop} (h : (r.nox.bind f).To P E) : r.To (fun a S => (f a S).To P E) (fun _ _ => False) := by
  cases r with
  | ok a S => exact h
  | exc x S => exact h
  | bad => exact h
theorem lc_run {K : PySem.W.Frag} {σ : St} {H : Hp} {Q : VK} (hG : G.off) (hw : ∀ j ∈ ws, j ∈ own.map (·.2)) (h : PostF K G W (cLc src t tc te (own.map (·.2))) σ H Q) :
    tLc (PostI K G W src) (gT K G ws t) (PostT K G W0 tc) (Post K G W0 te) (own.map (·.2)) σ H Q := by
  obtain ⟨ρ, O, δ, S, A, h⟩ := h
  refine ⟨ρ, O, δ, S, A, (Res.To.bind h).imp (fun it S1 hh ρ1 H1 J s1 A1 I => fun D nD => ?_) fun _ _ e => e⟩
  have nDO := (A1.st.free nD).2
  have hD : H D = none := by
    cases e : H D with
    | none => rfl
    | some o =>
      by_cases q : D ∈ ρ
      · exact absurd nD (A1.st.there (s1.sub q))
      · have := s1.old D o e q
        rw [nD] at this; cases this
  have bars : ∀ p ∈ D :: O, p ∈ O ∨ H1 p = none := fun p hp => (List.mem_cons.mp hp).elim (fun e => .inr (by rw [e]; exact nD)) .inl
  refine ⟨fun i m H' => m = it.1.length - i ∧ i ≤ it.1.length ∧ ∃ ρ' S' vs' acc, Stp ρ1 H1 ρ' H' ∧ RelA K G ρ' (D :: O) σ H' δ S' ∧ H' D = some (.lst vs') ∧ RepL K ρ' (D :: O) H' vs' acc ∧
      (lcL it t tc te (own.map (·.2)) δ (it.1.drop i) S' acc).To (PF K G ρ O σ H δ Q) (PX K G W ρ O σ H δ),
    ⟨_, rfl, Nat.zero_le _, ρ1, S1, [], [], stp_new nD, A1.barred nD, upd_same, .nil, by rw [List.drop_zero]; exact hh⟩, fun i m H2 hW => ?_⟩
  obtain ⟨em, hle, ρ2, S2, vs2, acc, s2, A2, e2, r2, h2⟩ := hW
  cases hd : it.1.drop i with
  | nil =>
    rw [hd] at h2
    unfold lcL at h2
    split at h2
    · rename_i hok
      have hn : it.1.length ≤ i := by
        have := congrArg List.length hd
        simp at this; omega
      exact .inl ⟨I.stop ρ2 (D :: O) S2 H2 i s2 bars A2.st hok hn, h2 ρ2 D vs2 H2 (s1.trans s2) A2 hD nDO e2 r2⟩
    · exact h2.elim
  | cons d r =>
    obtain ⟨hd1, hd2⟩ := drop_cons hd
    rw [hd] at h2
    unfold lcL at h2
    split at h2
    · rename_i hok
      have hlt : i < it.1.length := (List.getElem?_eq_some_iff.mp hd1).1
      refine .inr ⟨I.go ρ2 (D :: O) S2 H2 i s2 bars A2.st hok hlt, fun H' => ∃ ρ' S' vs' acc, Stp ρ1 H1 ρ' H' ∧ RelA K G ρ' (D :: O) σ H' δ S' ∧ H' D = some (.lst vs') ∧ RepL K ρ' (D :: O) H' vs' acc ∧
          (lcL it t tc te (own.map (·.2)) δ r S' acc).To (PF K G ρ O σ H δ Q) (PX K G W ρ O σ H δ), fun H' hN => ?_, fun x H3 hy => ?_⟩
      · obtain ⟨ρ3, S3, vs3, acc3, s3, A3, e3, r3, h3⟩ := hN
        exact ⟨it.1.length - (i + 1), by omega, rfl, by omega, ρ3, S3, vs3, acc3, s3, A3, e3, r3, by rw [hd2]; exact h3⟩
      · obtain ⟨s3, R3, r3⟩ := I.yld ρ2 (D :: O) S2 H2 i x H3 d s2 bars A2.st hok hd1 hy
        have A3 := A2.of s3 R3
        have D2 : D ∉ ρ2 := (A2.st.ho D List.mem_cons_self).2
        have e3 := s3.old D _ e2 D2
        cases ht : t d (wipeD δ (own.map (·.2))) S2 with
        | none => simp only [ht] at h2; exact h2.elim
        | some δ3 =>
          simp only [ht] at h2
          refine ⟨ρ2, D :: O, _, S2, d, δ3, A3.wiped hG _, r3, ht, fun σ4 A4 l4 q4 => ⟨?_, ?_⟩⟩
          · exact wipe_eq (fun j hj => hw j hj) (by rw [l4, wipe_length]) q4
          · refine ⟨ρ2, D :: O, δ3, S2, A4, (nox_to h2).imp (fun b S5 h5 ρ5 H5 s5 A5 => ?_) fun _ _ e => e.elim⟩
            have r5 := (r2.mono A2.st s3).mono A3.st s5
            have e5 := s5.old D _ e3 D2
            have A5' : RelA K G ρ5 (D :: O) σ H5 δ S5 := A3.of s5 A5.st
            have s15 := s2.trans (s3.trans s5)
            split at h5
            · rename_i eb
              dsimp only
              rw [if_pos eb]
              refine ⟨ρ5, D :: O, δ3, S5, A5, (nox_to h5).imp (fun y S6 h6 ρ6 z H6 s6 A6 r6 => ?_) fun _ _ e => e.elim⟩
              split at h6
              · rename_i hl
                have D5 : D ∉ ρ5 := (A5.st.ho D List.mem_cons_self).2
                have e6 := s6.old D _ e5 D5
                have rr6 := r5.mono A5.st s6
                have A6' : RelA K G ρ6 (D :: O) σ H6 δ S6 := A5'.of s6 A6.st
                have np : ∀ xs, H6 D ≠ some (.tup xs) := fun xs e => by rw [e6] at e; cases e
                have nf : ∀ o u, H6 D ≠ some (.frz o u) := fun o u e => by rw [e6] at e; cases e
                have D6 : D ∉ ρ6 := (A6.st.ho D List.mem_cons_self).2
                refine ⟨_, e6, by rw [rr6.ix.1]; exact Nat.lt_of_lt_of_le hl (LIM_le (Nat.le_refl _)), ρ6, S6, _, acc ++ [y], ?_, A6'.hand hG np nf, upd_same, (rr6.append (.cons r6 .nil)).hand np nf, h6⟩
                have s16 := s15.trans s6
                obtain ⟨p1, p2, p3⟩ := s16
                exact ⟨p1, fun a o e n => by rw [upd_ne (fun z => by rw [z, nD] at e; cases e)]; exact p2 a o e n, p3⟩
              · exact h6.elim
            · rename_i eb
              dsimp only
              rw [if_neg eb]
              exact ⟨ρ5, S5, _, acc, s15, A5', e5, r5, h5⟩
    · exact h2.elim
end
end Mp

/-! Mp, part 8: calls of defs, of built-ins, methods of built-in types, subscripts, slices. -/
namespace Mp
open PySem PySem.Spec L2
open PyProof.Rows hiding St

section
variable {X : Cx} {G : Glo} {W : WX} {tg a b c iter elt : Expr} {ea eb ec te : Ev} {tc : EvB} {src : Src} {t : Tgt} {ws : List Nat} {pos : Pos} {ifs : List Expr} {scope : Scope} {own : List (Str × Nat)}
/-! ### comprehensions as expressions -/
theorem SF.lc (hc : X.calm = true) (hG : G.off) (hN : X.N.Nodup) (hi : SI X G W tg iter src) (ok : BlkOk X.N X.env.scope scope own)
    (hg : ∀ (s : Shared) (H : Hp) (C : Addr) (cl : List (Str × Addr)) (fp : List Addr), SG (X.blk s H scope (compEnvC scope cl C X.env) fp) G tg ws t)
    (ht : ∀ (s : Shared) (H : Hp) (C : Addr) (cl : List (Str × Addr)) (fp : List Addr), STs (X.blk s H scope (compEnvC scope cl C X.env) fp) G W0 ifs tc)
    (he : ∀ (s : Shared) (H : Hp) (C : Addr) (cl : List (Str × Addr)) (fp : List Addr), SE (X.blk s H scope (compEnvC scope cl C X.env) fp) G W0 elt te)
    (hw : ∀ j ∈ ws, j ∈ own.map (·.2)) (hs : ∀ x, foldedSetIterable iter X.env x = pure x := by intro _; rfl) :
    SF X G W (.ListComp elt [⟨tg, iter, ifs, 0⟩] scope pos) (cLc src t tc te (own.map (·.2))) :=
  (pe_lc hc hN hi ok hg ht he hs).conseq fun σ H Q h => lc_run hG hw h
/-- name = [..]: the new list as a value -/
noncomputable def sSetLc (i : Nat) (r : Sl → Sto → Res (List D)) : EvS := fun δ S => (r δ S).out δ fun ds S1 => .nx (δ.set i (some (.lst ds))) S1
/-- .. as a changeable object -/
noncomputable def sSetLcN (i : Nat) (r : Sl → Sto → Res (List D)) : EvS := fun δ S => (r δ S).out δ fun ds S1 => .nx (δ.set i (some (.loc S1.length))) (S1 ++ [.lst ds])
theorem SS.setLc {i : Nat} {y : Str} {py spos : Pos} (hc : X.calm = true) (hG : G.off) (hN : X.N.Nodup) (hy : X.N[i]? = some y) (hyl : X.env.scope.names.lookup y = some .local)
    (hsw : swapsWith (.ListComp elt [⟨tg, iter, ifs, 0⟩] scope pos) (some (.Name y py)) spos.line X.env = pure true) (hi : SI X G W tg iter src) (ok : BlkOk X.N X.env.scope scope own)
    (hg : ∀ (s : Shared) (H : Hp) (C : Addr) (cl : List (Str × Addr)) (fp : List Addr), SG (X.blk s H scope (compEnvC scope cl C X.env) fp) G tg ws t)
    (ht : ∀ (s : Shared) (H : Hp) (C : Addr) (cl : List (Str × Addr)) (fp : List Addr), STs (X.blk s H scope (compEnvC scope cl C X.env) fp) G W0 ifs tc)
    (he : ∀ (s : Shared) (H : Hp) (C : Addr) (cl : List (Str × Addr)) (fp : List Addr), SE (X.blk s H scope (compEnvC scope cl C X.env) fp) G W0 elt te)
    (hw : ∀ j ∈ ws, j ∈ own.map (·.2)) (hs : ∀ x, foldedSetIterable iter X.env x = pure x := by intro _; rfl) :
    SS X G W (.Assign [.Name y py] (.ListComp elt [⟨tg, iter, ifs, 0⟩] scope pos) spos) (sSetLc i (cLc src t tc te (own.map (·.2)))) :=
  (ps_setLc hc hN hy hyl hsw hi ok hg ht he hs).conseq fun D σ H ⟨ρ, O, δ, S, A, h⟩ => by
    have h' := out_to (σ := σ) h
    refine lc_run hG hw ⟨ρ, O, δ, S, A, h'.imp (fun ds S1 hh ρ1 a vs H1 s1 A1 na nO e r => ?_) fun _ _ e => e⟩
    have sub : ∀ b ∈ O, b ∈ a :: O := fun b hb => List.mem_cons_of_mem _ hb
    exact hh ρ1 _ H1 s1 ((A1.unbar sub).set i (.lstL e (A1.st.ho a List.mem_cons_self).2 nO (r.unbar sub)))
theorem SS.setLcN {i : Nat} {y : Str} {py spos : Pos} (hc : X.calm = true) (hG : G.off) (hN : X.N.Nodup) (hy : X.N[i]? = some y) (hyl : X.env.scope.names.lookup y = some .local)
    (hsw : swapsWith (.ListComp elt [⟨tg, iter, ifs, 0⟩] scope pos) (some (.Name y py)) spos.line X.env = pure true) (hi : SI X G W tg iter src) (ok : BlkOk X.N X.env.scope scope own)
    (hg : ∀ (s : Shared) (H : Hp) (C : Addr) (cl : List (Str × Addr)) (fp : List Addr), SG (X.blk s H scope (compEnvC scope cl C X.env) fp) G tg ws t)
    (ht : ∀ (s : Shared) (H : Hp) (C : Addr) (cl : List (Str × Addr)) (fp : List Addr), STs (X.blk s H scope (compEnvC scope cl C X.env) fp) G W0 ifs tc)
    (he : ∀ (s : Shared) (H : Hp) (C : Addr) (cl : List (Str × Addr)) (fp : List Addr), SE (X.blk s H scope (compEnvC scope cl C X.env) fp) G W0 elt te)
    (hw : ∀ j ∈ ws, j ∈ own.map (·.2)) (hs : ∀ x, foldedSetIterable iter X.env x = pure x := by intro _; rfl) :
    SS X G W (.Assign [.Name y py] (.ListComp elt [⟨tg, iter, ifs, 0⟩] scope pos) spos) (sSetLcN i (cLc src t tc te (own.map (·.2)))) :=
  (ps_setLc hc hN hy hyl hsw hi ok hg ht he hs).conseq fun D σ H ⟨ρ, O, δ, S, A, h⟩ => by
    have h' := out_to (σ := σ) h
    refine lc_run hG hw ⟨ρ, O, δ, S, A, h'.imp (fun ds S1 hh ρ1 a vs H1 s1 A1 na nO e r => ?_) fun _ _ e => e⟩
    refine hh (ρ1 ++ [a]) _ H1 (stp_shift s1 na) ((A1.shift (.lst e r.shift) nO).set i (.loc ?_))
    rw [← A1.st.len]; simp

/-! ### a def's promise -/
/-- what a def gives, by the arguments and the store -/
def spOf (K : PySem.W.Frag) (G : Glo) (n : Nat) (f : List D → Sto → Res D) : Sp := fun vs H Q E => vs.length = n ∧ ∃ ρ O ds S, RelS K ρ O H S ∧ RepL K ρ O H vs ds ∧
  (f ds S).To (fun d S' => ∀ ρ' v H', Stp ρ H ρ' H' → RelS K ρ' O H' S' → RepV K ρ' O H' v d → Q v H')
    (fun x S' => ∀ ρ' cls dd H', Stp ρ H ρ' H' → RelS K ρ' O H' S' → ExcR K G ρ' O H' cls dd x → E cls dd H')
def cCall (n : Nat) (f : List D → Sto → Res D) (args : Sl → Sto → Res (List D)) : Ev := fun δ S => (args δ S).bind fun ds S1 => if ds.length = n then f ds S1 else .bad
/-- defaults: constants -/
inductive RepC : V → D → Prop where
  | non : RepC .non .non | bl (b : Bool) : RepC (.bl b) (.bl b) | int (i : Int) : RepC (.int i) (.int i) | str (x : List Nat) : RepC (.str (tx x)) (.str x)
theorem RepC.rep {K : PySem.W.Frag} {ρ O : List Addr} {H : Hp} {v : V} {d : D} (r : RepC v d) : RepV K ρ O H v d := by
  cases r with
  | non => exact .non
  | bl b => exact .bl b
  | int i => exact .int i
  | str x => exact .str x
theorem RepC.reps {K : PySem.W.Frag} {ρ O : List Addr} {H : Hp} {vs : List V} {ds : List D} (r : Paired RepC vs ds) : RepL K ρ O H vs ds := by
  induction r with
  | nil => exact .nil
  | cons r _ ih => exact .cons r.rep ih
def cCallD (n : Nat) (f : List D → Sto → Res D) (dds : List D) (args : Sl → Sto → Res (List D)) : Ev := fun δ S => (args δ S).bind fun ds S1 => if (ds ++ dds).length = n then f (ds ++ dds) S1 else .bad
theorem sp_run {f : List D → Sto → Res D} {n : Nat} {ρ O : List Addr} {σ : St} {H : Hp} {δ : Sl} {S S1 : Sto} {H1 : Hp} {ρ1 : List Addr} {vs : List V} {ds : List D} {Q : VK} (hn : vs.length = n) (s1 : Stp ρ H ρ1 H1) (A1 : RelA X.K G ρ1 O σ H1 δ S1) (r1 : RepL X.K ρ1 O H1 vs ds)
    (h : (f ds S1).To (PV X.K G ρ O σ H δ Q) (PX X.K G W ρ O σ H δ)) : spOf X.K G n f vs H1 Q (WE W σ) :=
  ⟨hn, ρ1, O, ds, S1, A1.st, r1, h.imp (fun d S2 hh ρ2 v H2 s2 R2 r2 => hh ρ2 v H2 (s1.trans s2) (A1.of s2 R2) r2) fun x S2 hh ρ2 cls dd H2 s2 R2 r2 => hh ρ2 cls dd H2 (s1.trans s2) (A1.of s2 R2) r2⟩
/-- as the layer's promise of a def, where no repr is under way around the call -/
structure FnG (P : Program) (w : World) (K : PySem.W.Frag) (mg : Str → Option Value) (base : Heap) (k : Nat) (f : Addr) (fd : FuncData) (ps : List Str) (sp : Sp) : Prop where
  ln : ∀ vs H Q E, sp vs H Q E → vs.length = ps.length
  go : ∀ (B : Around) (o : List Env) (z : Shared) (H : Hp) (ar : Args) (us : List Value) (vs : List V) (Q : VK) (E : XK), B.guards = some [] → Room k B → Env0 P w K mg base B o z H → BindsTo z fd ar (ps.zip us) → Vals vs us → sp vs H Q E →
    codeAny (model P w) B (.call (.ref f) ar) (CR (L2.CX P w) o P w H z Q E) z
theorem FnG.mono {P : Program} {w : World} {K : PySem.W.Frag} {mg : Str → Option Value} {base : Heap} {j k : Nat} {f : Addr} {fd : FuncData} {ps : List Str} {sp : Sp} (F : FnG P w K mg base j f fd ps sp) (h : j ≤ k) : FnG P w K mg base k f fd ps sp :=
  ⟨F.ln, fun B o z H ar us vs Q E hg hr => F.go B o z H ar us vs Q E hg (hr.mono h)⟩
/-- a def's body keeps it -/
theorem fnG_of {P : Program} {w : World} {K : PySem.W.Frag} {mg : Str → Option Value} {base : Heap} {x qual : Str} {st : Stmt} {f : Addr} {fd : FuncData} {N ps : List Str} {k : Nat} {sp : Sp} (F : Fun K x qual st f fd) (S : FnScope N ps (defScope st)) (hln : ∀ vs H Q E, sp vs H Q E → vs.length = ps.length)
    (hb : ∀ (cdv : Value) (B : Around) (o : List Env) (z : Shared) (H : Hp) (vs : List V) (Q : VK) (E : XK), B.guards = some [] → Room k (B.deeper (envOfC qual (defScope st) z.heap.objs.size f cdv)) → sp vs H Q E →
      ∃ t, PSs (cxOf (L2.CX P w) P w K mg base N qual (defScope st) f cdv B o z H E) (defBody st) t ∧ t { nx := fun _ H' => Q .non H', rt := Q } (start N vs) H) : FnG P w K mg base (k + 1) f fd ps sp := by
  obtain ⟨oc, od, kV, doc, pm, an, cdv, ct, osl, rfl, lk, hcd⟩ := F.ex
  refine ⟨hln, fun B o z H ar us vs Q E hg hr e0 hbd r hsp => ?_⟩
  have keep : ∀ b u, base.get? b = some u → z.heap.get? b = some u := fun b u e => (e0.bs b u e).1
  have par : ∀ y ∈ ps.zip us, (defScope st).names.lookup y.1 = some .local ∨ ((defScope st).names.lookup y.1 = some .cell ∧ ((cellsFrom (z.heap.objs.size + 1) (defScope st).names []).lookup y.1).isSome = true) := fun y hy =>
    (S.par y.1 (List.of_mem_zip (a := y.1) (b := y.2) hy).1).imp id fun q => ⟨q, PySem.W.cellsFrom_some _ _ _ (.inl q)⟩
  refine codeAny_call_function hr.depth (e0.mod.kin.keeps keep _ _ lk) rfl S.co S.gen rfl (PySem.W.codeRec_of (e0.mod.kin.keeps keep) hcd) (hbd _ _ _ _ (wpAny_newFunctionEnv_cells S.kind par fun env he z1 y => ?_))
  subst he
  refine ⟨(e0.mod.nolimit.keeps keep).keeps y.toInCall.keep, codeAny_func ?_⟩
  obtain ⟨t, ht, hq⟩ := hb cdv B o z H vs Q E hg (hr.deeper _) hsp
  refine wpAny_mono (ht.run [] z1 (start N vs) H _ (inv_start S hr.hd e0 (hln _ _ _ _ hsp) r y) hq) (fun fl z' hz => ?_) fun _ _ e => e
  cases fl with
  | ret u => obtain ⟨v, σ', H', J, rv, q⟩ := hz; exact ⟨v, H', J.os, J.bare, J.base, J.hok, rv, q⟩
  | next => obtain ⟨σ', H', J, q⟩ := hz; exact ⟨.non, H', J.os, J.bare, J.base, J.hok, rfl, q⟩
  | brk => obtain ⟨_, _, _, q⟩ := hz; exact q.elim
  | cont => obtain ⟨_, _, _, q⟩ := hz; exact q.elim
/-- the callee runs -/
theorem run_g {k : Nat} {f : Addr} {fd : FuncData} {ps : List Str} {sp : Sp} {dvs : List V} {dus : List Value} {E : XK} {pins : List (Addr × Obj)} {σ : St} {H : Hp} {z : Shared} {Q : VK} {us : List Value} {vs : List V} (hgu : X.A.guards = some []) (F : FnG X.prog X.w X.K X.mg X.base k f fd ps sp) (hr : Room k X.A) (hb : Binds X.K fd ps dus) (hd : Vals dvs dus)
    (hx : PassesAt (L2.CX X.prog X.w) X σ E) (I : Inv X pins σ H z) (r : Vals vs us) (h : sp (vs ++ dvs) H Q E) : wpAny (model X.prog X.w) X.A (call (.ref f) us) (EP X pins σ Q) X.xe z := by
  have rr : Vals (vs ++ dvs) (us ++ dus) := r.append hd
  refine wpAny_call (codeAny_mono (F.go X.A X.stack z H ⟨us, []⟩ (us ++ dus) (vs ++ dvs) Q E hgu hr I.env0 (hb z us I.kIn (rr.length.symm.trans (F.ln _ _ _ _ h))) rr h) fun res z' hq => ?_)
  match res, hq with
  | .error e, hq => exact hx pins H z e z' I hq
  | .ok (.ret u), hq => exact I.after hq
  | .ok .next, hq => exact hq.elim
  | .ok .brk, hq => exact hq.elim
  | .ok .cont, hq => exact hq.elim
theorem SE.callD {k : Nat} {f : Addr} {fd : FuncData} {ps : List Str} {dvs : List V} {dus : List Value} {dds : List D} {g : List D → Sto → Res D} {es : List Expr} {er : Sl → Sto → Res (List D)} {x : Str} {p : Pos} (hgu : X.A.guards = some []) (F : FnG X.prog X.w X.K X.mg X.base k f fd ps (spOf X.K G ps.length g)) (hr : Room k X.A) (hg : Gl X x) (hm : X.mg x = some (.ref f)) (hk : PySem.W.keepIn X.K (.ref f) = true)
    (hb : Binds X.K fd ps dus) (hd : Vals dvs dus) (hdd : Paired RepC dvs dds) (tk : Takes X W) (ha : SA X G W (a :: es) er) (hdb : (x == ("__debug__" : Str)) = false := by decide)
    (he : starEach (a :: es) X.env = (false, eval a X.env) :: starEach es X.env := by rfl) (hpl : (backTo pos (starEach es X.env)).any (·.1) = false := by rfl) :
    SE X G W (.Call (.Name x p) (a :: es) [] pos) (cCallD ps.length g dds er) := by
  refine ⟨fun pins z σ H Q I ⟨ρ, O, δ, S, A, h⟩ => wpAny_Call_Name_kw (ld_glob I hg hm ?_ hdb)⟩
  refine PySem.W.callWith_K (h₀ := X.base) I.ok.mod.kin hk (thn (ha.run pos pins z σ H (fun vs H1 => spOf X.K G ps.length g (vs ++ dvs) H1 Q (WE W σ)) I ?_) fun us z1 ⟨vs, H1, I1, r, q⟩ => ⟨I1.kIn, run_g hgu F hr hb hd (passAt tk σ) I1 r q⟩) he hpl
  refine ⟨ρ, O, δ, S, A, (Res.To.bind h).imp (fun ds S1 hh ρ1 vs H1 s1 A1 r1 => ?_) fun _ _ e => e⟩
  split at hh
  · rename_i hl
    have rr := r1.append (RepC.reps hdd (K := X.K) (ρ := ρ1) (O := O) (H := H1))
    exact sp_run (S := S) (by rw [rr.ix.1, hl]) s1 A1 rr hh
  · exact hh.elim
theorem SE.call {k : Nat} {f : Addr} {fd : FuncData} {ps : List Str} {g : List D → Sto → Res D} {es : List Expr} {er : Sl → Sto → Res (List D)} {x : Str} {p : Pos} (hgu : X.A.guards = some []) (F : FnG X.prog X.w X.K X.mg X.base k f fd ps (spOf X.K G ps.length g)) (hr : Room k X.A) (hg : Gl X x) (hm : X.mg x = some (.ref f)) (hk : PySem.W.keepIn X.K (.ref f) = true)
    (hb : Binds X.K fd ps []) (tk : Takes X W) (ha : SA X G W (a :: es) er) (hdb : (x == ("__debug__" : Str)) = false := by decide)
    (he : starEach (a :: es) X.env = (false, eval a X.env) :: starEach es X.env := by rfl) (hpl : (backTo pos (starEach es X.env)).any (·.1) = false := by rfl) :
    SE X G W (.Call (.Name x p) (a :: es) [] pos) (cCall ps.length g er) :=
  (SE.callD (dds := []) hgu F hr hg hm hk hb .nil .nil tk ha hdb he hpl).conseq fun σ H Q h => by
    unfold cCall at h
    unfold cCallD
    simpa only [List.append_nil] using h
/-- f() -/
def cCall0 (f : List D → Sto → Res D) : Ev := fun _ S => f [] S
theorem SE.call0 {k : Nat} {f : Addr} {fd : FuncData} {g : List D → Sto → Res D} {x : Str} {p : Pos} (hgu : X.A.guards = some []) (F : FnG X.prog X.w X.K X.mg X.base k f fd [] (spOf X.K G 0 g)) (hr : Room k X.A) (hg : Gl X x) (hm : X.mg x = some (.ref f)) (hk : PySem.W.keepIn X.K (.ref f) = true)
    (hb : Binds X.K fd [] []) (tk : Takes X W) (hdb : (x == ("__debug__" : Str)) = false := by decide) : SE X G W (.Call (.Name x p) [] [] pos) (cCall0 g) := by
  refine ⟨fun pins z σ H Q I ⟨ρ, O, δ, S, A, h⟩ => wpAny_Call_Name_kw (ld_glob I hg hm ?_ hdb)⟩
  exact PySem.W.callWith_K0 I.kIn hk (run_g (dvs := []) (us := []) (vs := []) hgu F hr hb .nil (passAt tk σ) I .nil
    (sp_run (S := S) (ds := []) rfl (.refl _ _) A .nil h))

/-! ### built-ins by values -/
/-- a call: the arguments, what is given, the store behind it -/
def rC (K : PySem.W.Frag) (g : Sto → List D → Option (D × Sto)) : List V → Hp → VK → Prop := fun xs H Q => ∃ ρ O S ds d S', RelS K ρ O H S ∧ RepL K ρ O H xs ds ∧ g S ds = some (d, S') ∧
  ∀ ρ' v H', Stp ρ H ρ' H' → RelS K ρ' O H' S' → RepV K ρ' O H' v d → Q v H'
/-- .. that lays a new list -/
def rF (K : PySem.W.Frag) (g : Sto → List D → Option (List D)) : List V → Hp → VK → Prop := fun xs H Q => ∃ ρ O S ds zs, RelS K ρ O H S ∧ RepL K ρ O H xs ds ∧ g S ds = some zs ∧
  ∀ a vs, H a = none → RepL K ρ O H vs zs → Q (.ref a) (upd H a (.lst vs))
def cB (g : Sto → List D → Option (D × Sto)) (args : Sl → Sto → Res (List D)) : Ev := fun δ S => (args δ S).bind fun ds S1 => match g S1 ds with
  | some (d, S2) => .ok d S2
  | none => .bad
def cBF (g : Sto → List D → Option (List D)) (args : Sl → Sto → Res (List D)) : Sl → Sto → Res (List D) := fun δ S => (args δ S).bind fun ds S1 => match g S1 ds with
  | some zs => .ok zs S1
  | none => .bad
theorem b_post {K : PySem.W.Frag} {g : Sto → List D → Option (D × Sto)} {er : Sl → Sto → Res (List D)} {σ : St} {H : Hp} {Q : VK} (h : Post K G W (cB g er) σ H Q) : tCB (rC K g) (PostA K G W er) σ H Q := by
  obtain ⟨ρ, O, δ, S, A, h⟩ := h
  refine ⟨ρ, O, δ, S, A, (Res.To.bind h).imp (fun ds S1 hh ρ1 vs H1 s1 A1 r1 => ?_) fun _ _ e => e⟩
  split at hh
  · rename_i d S2 hg
    exact ⟨ρ1, O, S1, ds, d, S2, A1.st, r1, hg, fun ρ2 v H2 s2 R2 r2 => hh ρ2 v H2 (s1.trans s2) (A1.of s2 R2) r2⟩
  · exact hh.elim
theorem np_back {K : PySem.W.Frag} {ρ ρ' O : List Addr} {H H' : Hp} {S' : Sto} {p : Addr} (s : Stp ρ H ρ' H') (R : RelS K ρ' O H' S') (np : H' p = none) : H p = none := by
  cases e : H p with
  | none => rfl
  | some o =>
    by_cases q : p ∈ ρ
    · exact absurd np (R.there (s.sub q))
    · have := s.old p o e q
      rw [np] at this; cases this
theorem bF_post {K : PySem.W.Frag} {g : Sto → List D → Option (List D)} {er : Sl → Sto → Res (List D)} {σ : St} {H : Hp} {Q : VK} (h : PostF K G W (cBF g er) σ H Q) : tCB (rF K g) (PostA K G W er) σ H Q := by
  obtain ⟨ρ, O, δ, S, A, h⟩ := h
  refine ⟨ρ, O, δ, S, A, (Res.To.bind h).imp (fun ds S1 hh ρ1 vs H1 s1 A1 r1 => ?_) fun _ _ e => e⟩
  split at hh
  · rename_i zs hg
    exact ⟨ρ1, O, S1, ds, zs, A1.st, r1, hg, fun p ws np rz => hh ρ1 p ws _ (s1.trans (stp_new np)) (A1.barred np) (np_back s1 A1.st np) (A1.st.free np).2 upd_same ((rz.bar np).monoM (fun _ h => A1.st.mut h) (stp_new np))⟩
  · exact hh.elim
theorem SE.blt {id : String} {g : Sto → List D → Option (D × Sto)} {es : List Expr} {er : Sl → Sto → Res (List D)} {x : Str} {p : Pos} (hc : CallR X (.builtin id) (rC X.K g)) (hg : Gl X x) (hm : X.mg x = none) (hv : bootBuiltins x = some (.builtin id)) (ha : SA X G W (a :: es) er) (hn : x ≠ "__name__" := by decide) (hdb : (x == ("__debug__" : Str)) = false := by decide)
    (he : starEach (a :: es) X.env = (false, eval a X.env) :: starEach es X.env := by rfl) (hpl : (backTo pos (starEach es X.env)).any (·.1) = false := by rfl) : SE X G W (.Call (.Name x p) (a :: es) [] pos) (cB g er) :=
  (pe_callB hc hg hm hv ha hn hdb he hpl).conseq fun σ H Q h => b_post h
theorem SE.ty {T : String} {g : Sto → List D → Option (D × Sto)} {es : List Expr} {er : Sl → Sto → Res (List D)} {x : Str} {p : Pos} (hc : CallR X (.type T) (rC X.K g)) (hg : Gl X x) (hm : X.mg x = none) (hv : bootBuiltins x = some (.type T)) (ha : SA X G W (a :: es) er) (hn : x ≠ "__name__" := by decide) (hdb : (x == ("__debug__" : Str)) = false := by decide)
    (he : starEach (a :: es) X.env = (false, eval a X.env) :: starEach es X.env := by rfl) (hpl : (backTo pos (starEach es X.env)).any (·.1) = false := by rfl) : SE X G W (.Call (.Name x p) (a :: es) [] pos) (cB g er) :=
  (pe_callTy hc hg hm hv ha hn hdb he hpl).conseq fun σ H Q h => b_post h
theorem SF.blt {id : String} {g : Sto → List D → Option (List D)} {es : List Expr} {er : Sl → Sto → Res (List D)} {x : Str} {p : Pos} (hc : CallR X (.builtin id) (rF X.K g)) (hg : Gl X x) (hm : X.mg x = none) (hv : bootBuiltins x = some (.builtin id)) (ha : SA X G W (a :: es) er) (hn : x ≠ "__name__" := by decide) (hdb : (x == ("__debug__" : Str)) = false := by decide)
    (he : starEach (a :: es) X.env = (false, eval a X.env) :: starEach es X.env := by rfl) (hpl : (backTo pos (starEach es X.env)).any (·.1) = false := by rfl) : SF X G W (.Call (.Name x p) (a :: es) [] pos) (cBF g er) :=
  (pe_callB hc hg hm hv ha hn hdb he hpl).conseq fun σ H Q h => bF_post h
theorem SF.ty {T : String} {g : Sto → List D → Option (List D)} {es : List Expr} {er : Sl → Sto → Res (List D)} {x : Str} {p : Pos} (hc : CallR X (.type T) (rF X.K g)) (hg : Gl X x) (hm : X.mg x = none) (hv : bootBuiltins x = some (.type T)) (ha : SA X G W (a :: es) er) (hn : x ≠ "__name__" := by decide) (hdb : (x == ("__debug__" : Str)) = false := by decide)
    (he : starEach (a :: es) X.env = (false, eval a X.env) :: starEach es X.env := by rfl) (hpl : (backTo pos (starEach es X.env)).any (·.1) = false := by rfl) : SF X G W (.Call (.Name x p) (a :: es) [] pos) (cBF g er) :=
  (pe_callTy hc hg hm hv ha hn hdb he hpl).conseq fun σ H Q h => bF_post h
end
section
variable {K : PySem.W.Frag} {ρ O : List Addr} {H : Hp}
theorem repL_one {xs : List V} {d : D} (r : RepL K ρ O H xs [d]) : ∃ x, xs = [x] ∧ RepV K ρ O H x d := by
  cases r with
  | cons r t => cases t; exact ⟨_, rfl, r⟩
theorem repL_two {xs : List V} {d e : D} (r : RepL K ρ O H xs [d, e]) : ∃ x y, xs = [x, y] ∧ RepV K ρ O H x d ∧ RepV K ρ O H y e := by
  cases r with
  | cons r t =>
    obtain ⟨y, rfl, r2⟩ := repL_one t
    exact ⟨_, _, rfl, r, r2⟩
theorem repL_bls : ∀ {xs : List V} {bs : List Bool}, RepL K ρ O H xs (bs.map D.bl) → xs = bs.map V.bl
  | _, [], r => by cases r; rfl
  | _, b :: bs, r => by
    cases r with
    | cons r t => cases r; rw [repL_bls t]; rfl
theorem repL_strs : ∀ {xs : List V} {zs : List (List Nat)}, RepL K ρ O H xs (zs.map D.str) → xs = (zs.map tx).map V.str
  | _, [], r => by cases r; rfl
  | _, b :: bs, r => by
    cases r with
    | cons r t => cases r; rw [repL_strs t]; rfl
end
/-- len -/
def lenD (S : Sto) : D → Option Nat
  | .str x => if x.length ≤ 1000000 then some x.length else none
  | .tup ds => some ds.length
  | .scr ns => some ns.length
  | d => (asL S d).map List.length
def gLen (S : Sto) (ds : List D) : Option (D × Sto) := match ds with
  | [d] => (lenD S d).map fun n => (.int n, S)
  | _ => none
/-- the type of a value -/
inductive Ty where
  | non | bool | int | str | tuple | list | dict
  deriving DecidableEq
def Ty.nm : Ty → String
  | .non => "NoneType" | .bool => "bool" | .int => "int" | .str => "str" | .tuple => "tuple" | .list => "list" | .dict => "dict"
def Ty.sub (a b : Ty) : Bool := match a, b with
  | .bool, .int => true
  | a, b => decide (a = b)
theorem kit_sub (a b : Ty) (h : b ≠ .non) : kitB a.nm b.nm = some (a.sub b) := by
  cases a <;> cases b <;> first | exact absurd rfl h | decide +kernel
def tyD (S : Sto) : D → Option Ty
  | .non => some .non
  | .bl _ => some .bool
  | .int _ => some .int
  | .str _ => some .str
  | .tup _ => some .tuple
  | .lst _ => some .list
  | .loc n => match S[n]? with
    | some (.lst _) => some .list
    | some (.dct false _ _) => some .dict
    | _ => none
  | .scr _ => some .list
  | .exn _ _ _ => none
theorem tyX_of {K : PySem.W.Frag} {ρ O : List Addr} {H : Hp} {S : Sto} {x : V} {d : D} {t : Ty} (R : RelS K ρ O H S) (r : RepV K ρ O H x d) (h : tyD S d = some t) : TyX K H x (.type t.nm) := by
  cases d with
  | non => cases h; cases r; exact .base .non
  | bl b => cases h; cases r; exact .base (.bl b)
  | int i => cases h; cases r; exact .base (.int i)
  | str x => cases h; cases r; exact .base (.str _)
  | tup ds =>
    cases h
    obtain ⟨a, vs, rfl, h1, _⟩ := r.of_tup
    rcases h1 with (h1 | ⟨o, h1⟩) | ⟨o, its, n, h1, h2, _⟩
    · exact .base (.tup h1)
    · exact .fTuple h1
    · exact .kTuple h1 h2
  | lst ds =>
    cases h
    obtain ⟨a, vs, rfl, h1, _⟩ := r.of_lst
    exact .base (.lst h1)
  | loc n =>
    have h' : (match S[n]? with | some (.lst _) => some Ty.list | some (.dct false _ _) => some Ty.dict | _ => none) = some t := h
    split at h'
    · rename_i ds hS
      cases h'
      obtain ⟨a, vs, rfl, h1, _⟩ := asL_rep (ds := ds) R r (by show (match S[n]? with | some (.lst ds) => some ds | _ => none) = _; rw [hS])
      exact .base (.lst h1)
    · rename_i T kvs hS
      cases h'
      obtain ⟨a, rfl, hn⟩ := r.of_loc
      cases R.cell n a _ hn hS with
      | dK h _ => exact .base (.dK h)
      | dT h _ => exact .base (.dT h)
    · cases h'
  | scr ns =>
    cases h
    cases r with
    | scr h => rcases h with ⟨o, h1⟩ | ⟨o, its, n, h1, h2, _⟩
               · exact .base (.frz h1)
               · exact .kList h1 h2
  | exn _ _ _ => cases h
def gIsi (T : Ty) (S : Sto) (d : D) : Option D := (tyD S d).map fun t => .bl (t.sub T)
section
variable {X : Cx} {G : Glo} {W : WX} {a b c : Expr} {ea eb ec te : Ev} {pos : Pos}
theorem cr_len : CallR X (.builtin "len") (rC X.K gLen) := by
  intro pins s σ H xs us Q I r h
  obtain ⟨ρ, O, S, ds, d, S', R, rl, hg, k⟩ := h
  unfold gLen at hg
  split at hg
  · rename_i e
    obtain ⟨x, rfl, r1⟩ := repL_one rl
    cases hl : lenD S e with
    | none => rw [hl] at hg; cases hg
    | some n =>
      rw [hl] at hg; cases hg
      have fin : Q (.int (n : Nat)) H := k ρ _ H (.refl _ _) R (.int _)
      refine call_len pins s σ H [x] us Q I r ⟨x, n, rfl, ?_, fin⟩
      cases e with
      | str y =>
        have hl' : (if y.length ≤ 1000000 then some y.length else none) = some n := hl
        split at hl'
        · cases hl'; cases r1
          rename_i hy
          exact ⟨by rw [tx_len]; exact LIM_le hy, (tx_len y).symm⟩
        · cases hl'
      | tup es =>
        cases hl
        obtain ⟨p, vs, rfl, h1, q⟩ := r1.of_tup
        exact .inr ⟨vs, h1, q.ix.1.symm⟩
      | scr ns =>
        cases hl
        cases r1 with
        | scr h => exact .inl ⟨_, h.seq, by simp⟩
      | lst es =>
        cases hl
        obtain ⟨p, vs, rfl, h1, _, _, q⟩ := r1.of_lst
        exact .inl ⟨vs, .of h1, q.ix.1.symm⟩
      | loc m =>
        have hl' : (asL S (.loc m)).map List.length = some n := hl
        cases e1 : asL S (.loc m) with
        | none => rw [e1] at hl'; cases hl'
        | some es =>
          rw [e1] at hl'; cases hl'
          obtain ⟨p, vs, rfl, h1, q⟩ := asL_rep R r1 e1
          exact .inl ⟨vs, .of h1, q.ix.1.symm⟩
      | _ => cases hl
  · cases hg
/-- isinstance(x, T), T a built-in type -/
theorem SE.isi {T : Ty} {x : Str} {p p2 : Pos} (hT : T ≠ .non) (hg : Gl X "isinstance") (hm : X.mg "isinstance" = none) (hx : Gl X x) (hmx : X.mg x = none) (hbx : bootBuiltins x = some (.type T.nm)) (ha : SE X G W a ea) (hn : x ≠ "__name__" := by decide)
    (hd : (x == ("__debug__" : Str)) = false := by decide) (he : starEach [a, .Name x p2] X.env = (false, eval a X.env) :: starEach [.Name x p2] X.env := by rfl) (he2 : starEach [.Name x p2] X.env = (false, eval (.Name x p2) X.env) :: starEach [] X.env := by rfl) (hpl : (backTo pos (starEach [.Name x p2] X.env)).any (·.1) = false := by rfl) :
    SE X G W (.Call (.Name "isinstance" p) [a, .Name x p2] [] pos) (cUn (gIsi T) ea) :=
  (pe_callB call_isi hg hm (by decide +kernel) (pa_cons ha (pa_cons (pe_bltn (v := .ty T.nm) hx hmx hbx rfl hn hd) pa_nil he2) he) (by decide) (by decide) he hpl).conseq fun σ H Q ⟨ρ, O, δ, S, A, h⟩ =>
    Post.run A h fun d S1 ρ1 v H1 h1 s1 A1 r1 => by
      unfold gIsi at h1
      cases e : tyD S1 d with
      | none => rw [e] at h1; exact h1.elim
      | some t =>
        rw [e] at h1
        exact ⟨v, .ty T.nm, _, _, _, rfl, .ty _, tyX_of A1.st r1 e, kit_ty (kit_sub t T hT), h1 ρ1 _ H1 s1 A1 (.bl _)⟩
end
end Mp

/-! Mp, part 9: built-ins. -/
namespace Mp
open PySem PySem.Spec L2
open PyProof.Rows hiding St

/-! ### repr -/
mutual
def rsz : PyData → Nat
  | .none => 4
  | .bool _ => 5
  | .int i => i.natAbs.log2 + 3
  | .str x => 10 * x.length + 2
  | .list xs => rszs xs + 3
  | .tuple xs => rszs xs + 3
  | .dict _ => 0
def rszs : List PyData → Nat
  | [] => 0
  | x :: xs => rsz x + 2 + rszs xs
end
/-- what repr is asked of here -/
def okR (t : PyData) : Bool := t.showable && SeqAt.shaped t && decide (rsz t ≤ 1000000)
/-- the codes of repr's text -/
def shownL (t : PyData) : List Nat := t.shown.cps.toList
mutual
theorem shown_rsz : ∀ t : PyData, t.showable = true → t.canLay0 = true → t.shown.length ≤ rsz t
  | .none, _, _ => by simp only [PyData.shown, rsz]; decide
  | .bool b, _, _ => by cases b <;> (simp only [PyData.shown, rsz]; decide)
  | .int i, h, _ => by
    simp only [PyData.shown, rsz]
    have q := int_text_length_le (a := i) (k := i.natAbs.log2 + 1) (by omega) (by omega)
    show (Str.ofString (toString i)).length ≤ i.natAbs.log2 + 3
    have q2 : (Str.ofString (toString i)).length ≤ i.natAbs.log2 + 1 + 1 := by
      rw [TL.len_tl, TL.tl_ofString, List.length_map, String.length_toList]; exact q
    omega
  | .str x, _, h => by
    simp only [PyData.shown, rsz]
    refine StrLaws.reprText_len x fun c hc => ?_
    have h' : PyData.strOk x = true := by simpa [PyData.canLay0] using h
    unfold PyData.strOk at h'
    rw [Array.all_eq_true'] at h'
    have := h' c (by simpa using hc)
    simp at this
    omega
  | .list xs, h, h2 => by
    simp only [PyData.shown, rsz]
    have := shown_rszs xs (by simpa [PyData.showable] using h) (by simpa [PyData.canLay0] using h2)
    have q := listText_len_le (PyData.shownAll xs)
    omega
  | .tuple xs, h, h2 => by
    simp only [PyData.shown, rsz]
    have := shown_rszs xs (by simpa [PyData.showable] using h) (by simpa [PyData.canLay0] using h2)
    have q := tupleText_len_le (PyData.shownAll xs)
    omega
  | .dict _, _, h => by simp [PyData.canLay0] at h
theorem shown_rszs : ∀ xs : List PyData, PyData.showableAll xs = true → PyData.canLayAll0 xs = true → ((PyData.shownAll xs).map (·.length)).sum + 2 * (PyData.shownAll xs).length ≤ rszs xs
  | [], _, _ => by simp [PyData.shownAll, rszs]
  | x :: xs, h, h2 => by
    simp only [PyData.showableAll, Bool.and_eq_true] at h
    simp only [PyData.canLayAll0, Bool.and_eq_true] at h2
    have a := shown_rsz x h.1 h2.1
    have b := shown_rszs xs h.2 h2.2
    simp only [PyData.shownAll, rszs, List.map_cons, List.sum_cons, List.length_cons]
    omega
end
mutual
theorem noDict_lay : ∀ t : PyData, t.canLay0 = true → t.hasDict = false
  | .none, _ => by simp only [PyData.hasDict]
  | .bool _, _ => by simp only [PyData.hasDict]
  | .int _, _ => by simp only [PyData.hasDict]
  | .str _, _ => by simp only [PyData.hasDict]
  | .list xs, h => by simp only [PyData.hasDict]; exact noDict_lays xs (by simpa [PyData.canLay0] using h)
  | .tuple xs, h => by simp only [PyData.hasDict]; exact noDict_lays xs (by simpa [PyData.canLay0] using h)
  | .dict _, h => by simp [PyData.canLay0] at h
theorem noDict_lays : ∀ xs : List PyData, PyData.canLayAll0 xs = true → PyData.hasDictAll xs = false
  | [], _ => by simp only [PyData.hasDictAll]
  | x :: xs, h => by
    simp only [PyData.canLayAll0, Bool.and_eq_true] at h
    simp only [PyData.hasDictAll, noDict_lay x h.1, noDict_lays xs h.2, Bool.or_false]
end
def gRepr (S : Sto) (d : D) : Option D := match treeD S 60 d with
  | some t => if okR t = true then some (.str (shownL t)) else none
  | none => none
section
variable {X : Cx}
theorem str_shown (t : PyData) : PyData.shown t = tx (shownL t) := tx_of _
theorem repr_reads {v : Value} {t : PyData} {as : List Addr} {A : Around} {E : Value → Shared → Prop} {s : Shared} {Q : Value → Shared → Prop} (r : Reads s.heap v t as) (ok : okR t = true) (hg : A.guards = some []) (hu : A.units + 70 < cLine)
    (h : ∀ h' u tk, (∀ b o, s.heap.get? b = some o → h'.get? b = some o) → Q (.str t.shown u) { s with heap := h', toks := tk }) : wpAny (model X.prog X.w) A (call (.builtin "repr") [v]) Q E s := by
  unfold okR at ok
  rw [Bool.and_eq_true, Bool.and_eq_true] at ok
  obtain ⟨⟨h1, h2⟩, h3⟩ := ok
  have hl := SeqAt.canLay_of_shaped h2
  have hd := SeqAt.depth_of_shaped h2
  have hz : t.shown.length ≤ sizeLine := Nat.le_trans (shown_rsz t h1 hl) (LIM_le (of_decide_eq_true h3))
  cases r with
  | none => exact PySem.P.repr_of_none (h s.heap _ _ fun _ _ e => e)
  | bool b => exact PySem.P.repr_of_bool (by
      have q := h s.heap s.toks (s.toks + 1) fun _ _ e => e
      simpa only [PyData.shown] using q)
  | int i t =>
    refine PySem.P.repr_of_int (by simpa [PyData.showable] using h1) ?_
    have q := h s.heap s.toks (s.toks + 1) fun _ _ e => e
    simpa only [PyData.shown] using q
  | str x t =>
    refine PySem.P.repr_of_str ?_ (by simpa only [PyData.shown] using hz)
    have q := h s.heap s.toks (s.toks + 1) fun _ _ e => e
    simpa only [PyData.shown] using q
  | list h4 h5 h6 h7 => exact repr_of_reads' (.list h4 h5 h6 h7) h1 (PyData.noDict_hsm (noDict_lay _ hl)) hg (by omega) (fun _ _ e => e) h hz
  | tuple h4 h5 h6 h7 => exact repr_of_reads' (.tuple h4 h5 h6 h7) h1 (PyData.noDict_hsm (noDict_lay _ hl)) hg (by omega) (fun _ _ e => e) h hz
  | dict h4 h5 h6 h7 h8 => simp [PyData.canLay0] at hl
def g1 (f : Sto → D → Option D) (S : Sto) (ds : List D) : Option (D × Sto) := match ds with
  | [d] => (f S d).map fun e => (e, S)
  | _ => none
def g2 (f : Sto → D → D → Option D) (S : Sto) (ds : List D) : Option (D × Sto) := match ds with
  | [d, e] => (f S d e).map fun z => (z, S)
  | _ => none
theorem cr_one {f : Value} {g : Sto → D → Option D} (h : ∀ pins s σ H x u Q ρ O S d e, Inv X pins σ H s → RelV x u → RelS X.K ρ O H S → RepV X.K ρ O H x d → g S d = some e → (∀ v, RepV X.K ρ O H v e → Q v H) → wpAny (model X.prog X.w) X.A (call f [u]) (EP X pins σ Q) X.xe s) : CallR X f (rC X.K (g1 g)) := by
  intro pins s σ H xs us Q I r ⟨ρ, O, S, ds, d, S', R, rl, hg, k⟩
  unfold g1 at hg
  split at hg
  · rename_i e
    obtain ⟨x, rfl, r1⟩ := repL_one rl
    obtain ⟨u, rfl, ru⟩ := vals1 r
    cases hz : g S e with
    | none => rw [hz] at hg; cases hg
    | some z => rw [hz] at hg; cases hg; exact h pins s σ H x u Q ρ O S e _ I ru R r1 hz fun v rv => k ρ v H (.refl _ _) R rv
  · cases hg
theorem cr_repr (hg : X.A.guards = some []) (hu : X.A.units + 70 < cLine) : CallR X (.builtin "repr") (rC X.K (g1 gRepr)) := cr_one fun pins s σ H x u Q ρ O S d e I ru R r1 hz k => by
  unfold gRepr at hz
  split at hz
  · rename_i t ht
    split at hz
    · rename_i ok
      cases hz
      obtain ⟨as, q⟩ := Dp.reads I t x u (treeD_dp R _ _ _ _ r1 ht) ru
      refine repr_reads q ok hg hu fun h' tk' t' keep => ⟨.str (tx (shownL t)), H, I.kept keep, ⟨_, by rw [← str_shown]⟩, k _ (.str _)⟩
    · cases hz
  · cases hz
/-! ### int, str, abs, min, max -/
def digs (x : List Nat) : Bool := x.all fun c => decide (48 ≤ c) && decide (c ≤ 57)
def gInt (_ : Sto) (d : D) : Option D := match d with
  | .int i => some (.int i)
  | .bl b => some (.int (if b then 1 else 0))
  | .str x => if digs x = true ∧ x.isEmpty = false ∧ x.length ≤ 640 then some (.int ((NumText.digitsVal x : Nat) : Int)) else none
  | _ => none
theorem cr_int : CallR X (.type "int") (rC X.K (g1 gInt)) := cr_one fun pins s σ H x u Q ρ O S d e I ru R r1 hz k => by
  unfold gInt at hz
  split at hz
  · cases hz; cases r1
    exact call_int1 pins s σ H _ [u] Q I (.cons ru .nil) (.inl ⟨_, rfl, k _ (.int _)⟩)
  · cases hz; cases r1
    exact call_int1 pins s σ H _ [u] Q I (.cons ru .nil) (.inr ⟨_, rfl, k _ (.int _)⟩)
  · split at hz
    · cases hz; cases r1
      rename_i z hd
      refine call_int_str pins s σ H _ [u] Q I (.cons ru .nil) ⟨tx z, _, rfl, SX.int_S hd.1 (fun e => by rw [e] at hd; simp at hd) (by omega), by rw [tx_len]; exact hd.2.2, k _ (.int _)⟩
    · cases hz
  · cases hz
/-- the digits of a number -/
def decL (i : Int) : List Nat := (toString i : String).toList.map Char.toNat
def gStr (_ : Sto) (d : D) : Option D := match d with
  | .str x => some (.str x)
  | .int i => if i.natAbs.log2 < 1920 then some (.str (decL i)) else none
  | _ => none
theorem dec_tx (i : Int) : (Str.ofString (toString i)) = tx (decL i) := TL.ext_tl (by rw [TL.tl_ofString]; exact (tx_list _).symm)
theorem cr_str : CallR X (.type "str") (rC X.K (g1 gStr)) := cr_one fun pins s σ H x u Q ρ O S d e I ru R r1 hz k => by
  unfold gStr at hz
  split at hz
  · cases hz; cases r1
    exact SkE.call_str_str pins s σ H _ [u] Q I (.cons ru .nil) ⟨_, rfl, k _ (.str _)⟩
  · split at hz
    · cases hz; cases r1
      rename_i hl
      refine call_str_int pins s σ H _ [u] Q I (.cons ru .nil) ⟨_, rfl, hl, ?_⟩
      have := k (.str (tx (decL _))) (.str _)
      rw [← dec_tx] at this
      exact this
    · cases hz
  · cases hz
def gAbs (_ : Sto) (d : D) : Option D := match d with
  | .int i => some (.int (if i < 0 then -i else i))
  | _ => none
theorem cr_abs : CallR X (.builtin "abs") (rC X.K (g1 gAbs)) := cr_one fun pins s σ H x u Q ρ O S d e I ru R r1 hz k => by
  unfold gAbs at hz
  split at hz
  · cases hz; cases r1
    exact call_abs pins s σ H _ [u] Q I (.cons ru .nil) ⟨_, rfl, k _ (.int _)⟩
  · cases hz
theorem cr_two {f : Value} {g : Sto → D → D → Option D} (h : ∀ pins s σ H x y us Q ρ O S d d' e, Inv X pins σ H s → Vals [x, y] us → RelS X.K ρ O H S → RepV X.K ρ O H x d → RepV X.K ρ O H y d' → g S d d' = some e → (∀ v, RepV X.K ρ O H v e → Q v H) → wpAny (model X.prog X.w) X.A (call f us) (EP X pins σ Q) X.xe s) : CallR X f (rC X.K (g2 g)) := by
  intro pins s σ H xs us Q I r ⟨ρ, O, S, ds, d, S', R, rl, hg, k⟩
  unfold g2 at hg
  split at hg
  · rename_i e e'
    obtain ⟨x, y, rfl, r1, r2⟩ := repL_two rl
    cases hz : g S e e' with
    | none => rw [hz] at hg; cases hg
    | some z => rw [hz] at hg; cases hg; exact h pins s σ H x y us Q ρ O S e e' _ I r R r1 r2 hz fun v rv => k ρ v H (.refl _ _) R rv
  · cases hg
def gMax (_ : Sto) (d e : D) : Option D := match d, e with
  | .int i, .int j => some (.int (if j > i then j else i))
  | _, _ => none
def gMin (_ : Sto) (d e : D) : Option D := match d, e with
  | .int i, .int j => some (.int (if j < i then j else i))
  | _, _ => none
theorem cr_max2 (hc : X.calm = true) : CallR X (.builtin "max") (rC X.K (g2 gMax)) := cr_two fun pins s σ H x y us Q ρ O S d d' e I r R r1 r2 hz k => by
  unfold gMax at hz
  split at hz
  · cases hz; cases r1; cases r2
    exact call_max2 hc pins s σ H _ us Q I r ⟨_, _, rfl, k _ (.int _)⟩
  · cases hz
theorem cr_min2 (hc : X.calm = true) : CallR X (.builtin "min") (rC X.K (g2 gMin)) := cr_two fun pins s σ H x y us Q ρ O S d d' e I r R r1 r2 hz k => by
  unfold gMin at hz
  split at hz
  · cases hz; cases r1; cases r2
    exact call_min2 hc pins s σ H _ us Q I r ⟨_, _, rfl, k _ (.int _)⟩
  · cases hz
/-! ### all, any -/
def blsOf : List D → Option (List Bool)
  | [] => some []
  | .bl b :: r => (blsOf r).map (b :: ·)
  | _ => none
theorem blsOf_map : ∀ {ds : List D} {bs : List Bool}, blsOf ds = some bs → ds = bs.map D.bl
  | [], _, h => by cases h; rfl
  | d :: r, bs, h => by
    cases d with
    | bl b =>
      have h' : (blsOf r).map (b :: ·) = some bs := h
      cases e : blsOf r with
      | none => rw [e] at h'; cases h'
      | some cs => rw [e] at h'; cases h'; rw [blsOf_map e]; rfl
    | _ => cases h
def gAll (S : Sto) (d : D) : Option D := ((asL S d).bind blsOf).map fun bs => .bl (bs.all id)
def gAny (S : Sto) (d : D) : Option D := ((asL S d).bind blsOf).map fun bs => .bl (bs.any id)
theorem asL_bls {ρ O : List Addr} {H : Hp} {S : Sto} {x : V} {d : D} {bs : List Bool} (R : RelS X.K ρ O H S) (r : RepV X.K ρ O H x d) (h : (asL S d).bind blsOf = some bs) : ∃ a, x = .ref a ∧ SqL X.K H a (bs.map V.bl) := by
  cases e : asL S d with
  | none => rw [e] at h; cases h
  | some ds =>
    rw [e] at h
    obtain ⟨a, vs, rfl, h1, q⟩ := asL_rep R r e
    have := blsOf_map h
    subst this
    rw [repL_bls q] at h1
    exact ⟨a, rfl, .of h1⟩
theorem cr_allD (hc : X.calm = true) : CallR X (.builtin "all") (rC X.K (g1 gAll)) := cr_one fun pins s σ H x u Q ρ O S d e I ru R r1 hz k => by
  unfold gAll at hz
  cases q : (asL S d).bind blsOf with
  | none => rw [q] at hz; cases hz
  | some bs =>
    rw [q] at hz; cases hz
    obtain ⟨a, rfl, h1⟩ := asL_bls R r1 q
    exact cr_all hc pins s σ H _ [u] Q I (.cons ru .nil) ⟨a, bs, rfl, h1, k _ (.bl _)⟩
theorem cr_anyD (hc : X.calm = true) : CallR X (.builtin "any") (rC X.K (g1 gAny)) := cr_one fun pins s σ H x u Q ρ O S d e I ru R r1 hz k => by
  unfold gAny at hz
  cases q : (asL S d).bind blsOf with
  | none => rw [q] at hz; cases hz
  | some bs =>
    rw [q] at hz; cases hz
    obtain ⟨a, rfl, h1⟩ := asL_bls R r1 q
    exact cr_any hc pins s σ H _ [u] Q I (.cons ru .nil) ⟨a, bs, rfl, h1, k _ (.bl _)⟩
/-! ### list(x), tuple(x) -/
def seqOf (S : Sto) : D → Option (List D)
  | .tup ds => some ds
  | .scr ns => some (ns.map .int)
  | d => asL S d
theorem seqOf_rep {ρ O : List Addr} {H : Hp} {S : Sto} {x : V} {d : D} {ds : List D} (R : RelS X.K ρ O H S) (r : RepV X.K ρ O H x d) (h : seqOf S d = some ds) : ∃ a vs, x = .ref a ∧ (SqL X.K H a vs ∨ SqT X.K H a vs) ∧ RepL X.K ρ O H vs ds := by
  have other : ∀ ds, asL S d = some ds → ∃ a vs, x = .ref a ∧ (SqL X.K H a vs ∨ SqT X.K H a vs) ∧ RepL X.K ρ O H vs ds := fun ds h => by
    obtain ⟨a, vs, rfl, h1, q⟩ := asL_rep R r h
    exact ⟨a, vs, rfl, .inl (.of h1), q⟩
  cases d with
  | tup es =>
    cases h
    obtain ⟨a, vs, rfl, h1, q⟩ := r.of_tup
    exact ⟨a, vs, rfl, .inr h1, q⟩
  | scr ns =>
    cases h
    cases r with
    | scr h =>
      refine ⟨_, _, rfl, .inl h.seq, ?_⟩
      clear h other
      induction ns with
      | nil => exact .nil
      | cons n ns ih => exact .cons (.int n) ih
  | lst es => exact other ds h
  | loc m => exact other ds h
  | _ => cases h
def gListF (S : Sto) (ds : List D) : Option (List D) := match ds with
  | [d] => seqOf S d
  | _ => none
theorem cr_list : CallR X (.type "list") (rF X.K gListF) := by
  intro pins s σ H xs us Q I r ⟨ρ, O, S, ds, zs, R, rl, hg, k⟩
  unfold gListF at hg
  split at hg
  · obtain ⟨x, rfl, r1⟩ := repL_one rl
    obtain ⟨a, vs, rfl, h1, q⟩ := seqOf_rep R r1 hg
    exact call_list_of pins s σ H _ us Q I r ⟨a, vs, rfl, h1, fun l nl => k l vs nl q⟩
  · cases hg
def gTuple (S : Sto) (d : D) : Option D := (seqOf S d).map .tup
theorem cr_tuple : CallR X (.type "tuple") (rC X.K (g1 gTuple)) := by
  intro pins s σ H xs us Q I r ⟨ρ, O, S, ds, d, S', R, rl, hg, k⟩
  unfold g1 at hg
  split at hg
  · rename_i e
    obtain ⟨x, rfl, r1⟩ := repL_one rl
    unfold gTuple at hg
    cases hs : seqOf S e with
    | none => rw [hs] at hg; cases hg
    | some es =>
      rw [hs] at hg; cases hg
      obtain ⟨a, vs, rfl, h1, q⟩ := seqOf_rep R r1 hs
      refine call_tuple_of pins s σ H _ us Q I r ⟨a, vs, rfl, ?_⟩
      rcases h1 with h1 | h1
      · exact .inl ⟨h1, fun l nl => k ρ _ _ (stp_new nl) (R.new nl) (.tupL (.of upd_same) (q.mono R (stp_new nl)))⟩
      · exact .inr ⟨h1, k ρ _ _ (.refl _ _) R (.tupL h1 q)⟩
  · cases hg
end
end Mp

/-! Mp, part 10: subscripts, slices, stores, methods of built-in types. -/
namespace Mp
open PySem PySem.Spec L2
open PyProof.Rows hiding St

/-! ### a[i] -/
def gIx (S : Sto) (x y : D) : Option D := match x, y with
  | .tup ds, .int i => atI ds i
  | .str z, .int i => if z.length ≤ 1000000 then (atI z i).map fun c => .str [c] else none
  | .scr ns, .int i => (atI ns i).map .int
  | x, .int i => (asL S x).bind fun ds => atI ds i
  | _, _ => none
section
variable {K : PySem.W.Frag} {ρ O : List Addr} {H : Hp} {S : Sto}
theorem atI_rep {vs : List V} {ds : List D} {i : Int} {d : D} (r : RepL K ρ O H vs ds) (h : atI ds i = some d) : ∃ v, atI vs i = some v ∧ RepV K ρ O H v d := by
  unfold atI at h ⊢
  rw [r.ix.1]
  cases e : ixN ds.length i with
  | none => rw [e] at h; cases h
  | some j => rw [e] at h; exact repL_get r h
theorem atI_map {α β : Type} (f : α → β) (xs : List α) (i : Int) : atI (xs.map f) i = (atI xs i).map f := by
  unfold atI
  rw [List.length_map]
  cases ixN xs.length i with
  | none => rfl
  | some j => simp
end
section
variable {X : Cx} {G : Glo} {W : WX} {a b c o e : Expr} {ea eb ec eo ee : Ev} {pos : Pos} {es : List Expr} {er : Sl → Sto → Res (List D)}
theorem ix_D : IxR X (rD X.K gIx) := by
  intro value slice pins s σ H x y v u Q I rx ry ⟨ρ, O, S, dx, dy, d, R, r1, r2, hg, k⟩ hp
  unfold gIx at hg
  split at hg
  · cases r2
    obtain ⟨p, vs, rfl, h1, q⟩ := r1.of_tup
    obtain ⟨z, hz, rz⟩ := atI_rep q hg
    exact ix_tup value slice pins s σ H _ _ v u Q I rx ry ⟨p, vs, _, z, rfl, rfl, h1, hz, k.here R rz⟩ hp
  · split at hg
    · cases r1; cases r2
      rename_i z i hl
      cases hc : atI z i with
      | none => rw [hc] at hg; cases hg
      | some c =>
        rw [hc] at hg; cases hg
        exact ix_str value slice pins s σ H _ _ v u Q I rx ry ⟨tx z, i, c, rfl, rfl, by rw [tx_len]; exact LIM_le hl, by rw [tx_list]; exact hc, k.here R (.str [c])⟩ hp
    · cases hg
  · cases r2
    rename_i ns i
    cases hc : atI ns i with
    | none => rw [hc] at hg; cases hg
    | some c =>
      rw [hc] at hg; cases hg
      cases r1 with
      | scr h => exact ix_list value slice pins s σ H _ _ v u Q I rx ry ⟨_, _, i, .int c, rfl, rfl, h.seq, by rw [atI_map, hc]; rfl, k.here R (.int c)⟩ hp
  · cases r2
    cases h0 : asL S dx with
    | none => rw [h0] at hg; cases hg
    | some ds =>
      rw [h0] at hg
      obtain ⟨p, vs, rfl, h1, q⟩ := asL_rep R r1 h0
      obtain ⟨z, hz, rz⟩ := atI_rep q hg
      exact ix_list value slice pins s σ H _ _ v u Q I rx ry ⟨p, vs, _, z, rfl, rfl, .of h1, hz, k.here R rz⟩ hp
  · cases hg
theorem SE.ix (ha : SE X G W a ea) (hb : SE X G W b eb) (hs : PlainIx b := by exact fun _ _ => rfl) : SE X G W (.Subscript a b pos) (cBin gIx ea eb) :=
  (pe_ix ix_D ha hb hs).conseq fun σ H Q h => bin_post h

/-! ### a[lo:hi] -/
abbrev EvO := Sl → Sto → Res (Option Int)
def PostO (K : PySem.W.Frag) (G : Glo) (W : WX) (ev : EvO) : TO := fun σ H Q => ∃ ρ O δ S, RelA K G ρ O σ H δ S ∧
  (ev δ S).To (fun o S' => ∀ ρ' H', Stp ρ H ρ' H' → RelA K G ρ' O σ H' δ S' → Q o H') (PX K G W ρ O σ H δ)
abbrev SO (X : Cx) (G : Glo) (W : WX) (e : Option Expr) (ev : EvO) : Prop := PO X e (PostO X.K G W ev)
def oNo : EvO := fun _ S => .ok none S
def oSome (a : Ev) : EvO := fun δ S => (a δ S).bind fun d S1 => match d with
  | .int i => .ok (some i) S1
  | _ => .bad
theorem SO.no : SO X G W none oNo := ⟨fun pins s σ H Q I ⟨ρ, O, δ, S, A, h⟩ => po_none.run pins s σ H Q I (h ρ H (.refl _ _) A)⟩
theorem SO.some (ha : SE X G W a ea) : SO X G W (Option.some a) (oSome ea) := ⟨fun pins s σ H Q I ⟨ρ, O, δ, S, A, h⟩ => (po_some ha).run pins s σ H Q I (Post.run A h fun d S1 ρ1 v H1 h1 s1 A1 r1 => by
  split at h1
  · cases r1; exact ⟨_, rfl, h1 ρ1 H1 s1 A1⟩
  · exact h1.elim)⟩
/-- the items between two places -/
def cutL {α : Type} (xs : List α) (lo hi : Option Int) : List α := (xs.drop (HT.sIx xs.length 0 lo)).take (HT.sIx xs.length xs.length hi - HT.sIx xs.length 0 lo)
theorem cut_rep {K : PySem.W.Frag} {ρ O : List Addr} {H : Hp} {vs : List V} {ds : List D} (r : RepL K ρ O H vs ds) (lo hi : Option Int) : RepL K ρ O H (cutV vs lo hi) (cutL ds lo hi) := by
  have tk : ∀ {vs : List V} {ds : List D} (n : Nat), RepL K ρ O H vs ds → RepL K ρ O H (vs.take n) (ds.take n) := by
    intro vs ds n r
    induction r generalizing n with
    | nil => simp; exact .nil
    | cons r _ ih => cases n with
      | zero => exact .nil
      | succ n => exact .cons r (ih n)
  have dr : ∀ {vs : List V} {ds : List D} (n : Nat), RepL K ρ O H vs ds → RepL K ρ O H (vs.drop n) (ds.drop n) := by
    intro vs ds n r
    induction r generalizing n with
    | nil => simp; exact .nil
    | cons r t ih => cases n with
      | zero => exact .cons r t
      | succ n => exact ih n
  unfold cutV cutL
  rw [r.ix.1]
  exact tk _ (dr _ r)
def gCut (S : Sto) (x : D) (lo hi : Option Int) : Option D := match x with
  | .str z => if z.length ≤ 1000000 then some (.str (cutL z lo hi)) else none
  | .tup ds => some (.tup (cutL ds lo hi))
  | x => (asL S x).map fun ds => .lst (cutL ds lo hi)
def cSl (a : Ev) (lo hi : EvO) : Ev := fun δ S => (a δ S).bind fun d S1 => (lo δ S1).bind fun l S2 => (hi δ S2).bind fun h S3 => match gCut S3 d l h with
  | some z => .ok z S3
  | none => .bad
def rCut (K : PySem.W.Frag) : V → Option Int → Option Int → Hp → VK → Prop := fun x lo hi H Q => ∃ ρ O S dx d, RelS K ρ O H S ∧ RepV K ρ O H x dx ∧ gCut S dx lo hi = some d ∧ KV1 K ρ O H S Q d
theorem cutS_tx (z : List Nat) (lo hi : Option Int) : cutS (tx z) lo hi = tx (cutL z lo hi) := by
  unfold cutS cutL
  rw [tx_len, tx_list] <;> rfl
theorem sl_D : SlR X (rCut X.K) := by
  intro pins s σ H x v vl vu lo hi sl Q I rx hs pl pu ⟨ρ, O, S, dx, d, R, r1, hg, k⟩
  unfold gCut at hg
  split at hg
  · split at hg
    · cases hg; cases r1
      rename_i hl
      refine sl_str pins s σ H _ v vl vu lo hi sl Q I rx hs pl pu ⟨_, rfl, by rw [tx_len]; exact LIM_le hl, ?_⟩
      rw [cutS_tx]; exact k.here R (.str _)
    · cases hg
  · cases hg
    obtain ⟨p, vs, rfl, h1, q⟩ := r1.of_tup
    refine sl_tupA pins s σ H _ v vl vu lo hi sl Q I rx hs pl pu ⟨p, vs, rfl, h1, fun hw => ?_, fun _ p' np => k.tup R np (cut_rep q lo hi)⟩
    have e : cutV vs lo hi = vs := by
      unfold cutV
      rw [hw.1, hw.2]; simp
    have q' := cut_rep q lo hi
    rw [e] at q'
    exact k.here R (.tupL h1 q')
  · cases h0 : asL S dx with
    | none => rw [h0] at hg; cases hg
    | some ds =>
      rw [h0] at hg; cases hg
      obtain ⟨p, vs, rfl, h1, q⟩ := asL_rep R r1 h0
      exact sl_list pins s σ H _ v vl vu lo hi sl Q I rx hs pl pu ⟨p, vs, rfl, .of h1, fun p' np => k.lst R np (cut_rep q lo hi)⟩
theorem SE.cut {lo hi : Option Expr} {el eh : EvO} {p2 : Pos} (ha : SE X G W a ea) (hl : SO X G W lo el) (hh : SO X G W hi eh) : SE X G W (.Subscript a (.Slice lo hi none p2) pos) (cSl ea el eh) :=
  (pe_slice sl_D ha hl hh).conseq fun σ H Q ⟨ρ, O, δ, S, A, h⟩ => Post.run A h fun d S1 ρ1 v H1 h1 s1 A1 r1 =>
    ⟨ρ1, O, δ, S1, A1, (Res.To.bind h1).imp (fun l S2 h2 ρ2 H2 s2 A2 => ⟨ρ2, O, δ, S2, A2, (Res.To.bind h2).imp (fun u S3 h3 ρ3 H3 s3 A3 => by
      split at h3
      · rename_i z hz
        exact ⟨ρ3, O, S3, d, z, A3.st, (r1.mono A1.st s2).mono A2.st s3, hz, fun v' H4 s4 R4 r4 => h3 ρ3 v' H4 ((s1.trans s2).trans (s3.trans s4)) (A3.of s4 R4) r4⟩
      · exact h3.elim) fun _ _ e => PX.mono e (s1.trans s2)⟩) fun _ _ e => PX.mono e s1⟩

/-! ### o[i] = e for a list -/
def sSub (eo ei ee : Ev) : EvS := fun δ S => (ee δ S).out δ fun d S1 => (eo δ S1).out δ fun x S2 => (ei δ S2).out δ fun y S3 => match x, y with
  | .loc n, .int i => match S3[n]? with
    | some (.lst ds) => match ixN ds.length i with
      | some j => .nx δ (S3.set n (.lst (ds.set j d)))
      | none => .bad
    | _ => .bad
  | _, _ => .bad
theorem repL_set {K : PySem.W.Frag} {ρ O : List Addr} {H : Hp} {vs : List V} {ds : List D} {v : V} {d : D} (r : RepL K ρ O H vs ds) (rv : RepV K ρ O H v d) (j : Nat) : RepL K ρ O H (vs.set j v) (ds.set j d) := by
  induction r generalizing j with
  | nil => exact .nil
  | cons r t ih => cases j with
    | zero => exact .cons rv t
    | succ j => exact .cons r (ih j)
theorem put_cell {K : PySem.W.Frag} {ρ O : List Addr} {H : Hp} {S : Sto} {n : Nat} {p : Addr} {vs' : List V} {ds : List D} (R : RelS K ρ O H S) (hn : ρ[n]? = some p) (r : RepL K ρ O H vs' ds) : RelS K ρ O (upd H p (.lst vs')) (S.set n (.lst ds)) :=
  R.put hn (.lst upd_same (r.monoM (fun _ h => R.mut h) (stp_put hn)))
theorem SS.sub {tpos : Pos} (he : SE X G W e ee) (hg : PG X (.Subscript o a tpos) (L2.gSub (Post X.K G W eo) (Post X.K G W ea) rSetL))
    (hs : swapsWithSole [.Subscript o a tpos] e pos.line X.env = pure false := by rfl) (hw : swappedStores [.Subscript o a tpos] e X.env = pure none := by rfl)
    (h1 : (assignEach [.Subscript o a tpos] X.env).map (·.2) = [assign (.Subscript o a tpos) X.env] := by rfl) : SS X G W (.Assign [.Subscript o a tpos] e pos) (sSub eo ea ee) :=
  (ps_asg he hg hs hw h1).conseq fun D σ H ⟨ρ, O, δ, S, A, h⟩ => Post.ofO A h fun d S1 ρ1 v H1 h1 s1 A1 r1 =>
    Post.ofO A1 h1 fun x S2 ρ2 xv H2 h2 s2 A2 r2 => Post.ofO A2 h2 fun y S3 ρ3 yv H3 h3 s3 A3 r3 => by
      split at h3
      · rename_i n i
        split at h3
        · rename_i ds hS
          split at h3
          · rename_i j hj
            obtain ⟨p, rfl, hn⟩ := (r2.mono A2.st s3).of_loc
            cases r3
            cases A3.st.cell n p _ hn hS with
            | lst hp rp =>
              refine ⟨p, _, i, j, rfl, rfl, hp, by rw [rp.ix.1]; exact hj, ?_⟩
              exact h3 ρ3 σ _ (stp_put hn) (A3.of (stp_put hn) (put_cell A3.st hn (repL_set rp (((r1.mono A1.st s2).mono A2.st s3)) j)))
          · exact h3.elim
        · exact h3.elim
      · exact h3.elim

/-! ### methods -/
def rM (K : PySem.W.Frag) (g : Sto → D → List D → Option (D × Sto)) : V → List V → Hp → VK → Prop := fun x xs H Q => ∃ ρ O S dx ds d S', RelS K ρ O H S ∧ RepV K ρ O H x dx ∧ RepL K ρ O H xs ds ∧ g S dx ds = some (d, S') ∧
  ∀ ρ' v H', Stp ρ H ρ' H' → RelS K ρ' O H' S' → RepV K ρ' O H' v d → Q v H'
/-- whose methods these are -/
def isTy (T : String) (S : Sto) (d : D) : Bool := match d with
  | .str _ => T == "str"
  | .lst _ => T == "list"
  | .loc n => T == "list" && (match S[n]? with | some (.lst _) => true | _ => false)
  | _ => false
theorem isTy_rep {K : PySem.W.Frag} {ρ O : List Addr} {H : Hp} {S : Sto} {T : String} {x : V} {d : D} (R : RelS K ρ O H S) (r : RepV K ρ O H x d) (h : isTy T S d = true) : tyV K T x H := by
  unfold isTy at h
  split at h
  · cases r; exact beq_iff_eq.mp h
  · obtain ⟨p, vs, rfl, h1, _⟩ := r.of_lst
    exact .inl ⟨beq_iff_eq.mp h, vs, .of h1⟩
  · rename_i n
    rw [Bool.and_eq_true] at h
    obtain ⟨p, rfl, hn⟩ := r.of_loc
    cases hS : S[n]? with
    | none => rw [hS] at h; cases h.2
    | some c =>
      rw [hS] at h
      cases c with
      | lst ds =>
        cases R.cell n p _ hn hS with
        | lst hp _ => exact .inl ⟨beq_iff_eq.mp h.1, _, .of hp⟩
      | dct _ _ _ => cases h.2
      | obj _ _ => cases h.2
  · cases h
def cM (T : String) (g : Sto → D → List D → Option (D × Sto)) (o : Ev) (args : Sl → Sto → Res (List D)) : Ev := fun δ S => (o δ S).bind fun x S1 => if isTy T S1 x = true then (args δ S1).bind fun ds S2 => match g S2 x ds with
  | some (d, S3) => .ok d S3
  | none => .bad else .bad
theorem SE.bm {T id : String} {name : Str} {apos : Pos} {g : Sto → D → List D → Option (D × Sto)} (pa : PlainAttrs T) (slot : Slot T name id) (hty : typeOf (.builtin id) = pure (.type "method_descriptor")) (hm : MtR X id (rM X.K g)) (ho : SE X G W o eo) (ha : SA X G W (e :: es) er)
    (hbase : attributeBase o name X.env (eval o X.env) = eval o X.env := by rfl)
    (hfew : ((backTo pos (starEach (e :: es) X.env)).all (fun x => !x.1) && (backToKw pos (keywordEach [] X.env)).all (fun x => x.1.isSome) && decide ((e :: es).length + ([] : List Keyword).length + (if ([] : List Keyword).isEmpty then 0 else 1) < 30)) = true := by rfl)
    (hline : (apos.endLine == pos.line) = true := by rfl) (hs : starEach (e :: es) X.env = (false, eval e X.env) :: starEach es X.env := by rfl) (hplain : (backTo pos (starEach es X.env)).any (·.1) = false := by rfl) :
    SE X G W (.Call (.Attribute o name apos) (e :: es) [] pos) (cM T g eo er) :=
  (pe_bm pa slot hty hm ho ha hbase hfew hline hs hplain).conseq fun σ H Q ⟨ρ, O, δ, S, A, h⟩ => Post.run A h fun x S1 ρ1 v H1 h1 s1 A1 r1 => by
    split at h1
    · rename_i ht
      refine ⟨isTy_rep A1.st r1 ht, ρ1, O, δ, S1, A1, (Res.To.bind h1).imp (fun ds S2 h2 ρ2 vs H2 s2 A2 r2 => ?_) fun _ _ e => PX.mono e s1⟩
      split at h2
      · rename_i d S3 hg
        exact ⟨ρ2, O, S2, x, ds, d, S3, A2.st, r1.mono A1.st s2, r2, hg, fun ρ3 w H3 s3 R3 r3 => h2 ρ3 w H3 (s1.trans (s2.trans s3)) (A2.of s3 R3) r3⟩
      · exact h2.elim
    · exact h1.elim
theorem SE.bm0 {T id : String} {name : Str} {apos : Pos} {g : Sto → D → List D → Option (D × Sto)} (pa : PlainAttrs T) (slot : Slot T name id) (hty : typeOf (.builtin id) = pure (.type "method_descriptor")) (hm : MtR X id (rM X.K g)) (ho : SE X G W o eo)
    (hbase : attributeBase o name X.env (eval o X.env) = eval o X.env := by rfl) (hline : (apos.endLine == pos.line) = true := by rfl) :
    SE X G W (.Call (.Attribute o name apos) [] [] pos) (cM T g eo cNil) :=
  (pe_bm0 pa slot hty hm ho hbase hline).conseq fun σ H Q ⟨ρ, O, δ, S, A, h⟩ => Post.run A h fun x S1 ρ1 v H1 h1 s1 A1 r1 => by
    split at h1
    · rename_i ht
      refine ⟨isTy_rep A1.st r1 ht, ?_⟩
      have h2 : (match g S1 x [] with | some (d, S3) => (.ok d S3 : Res D) | none => .bad).To (PV X.K G ρ O σ H δ Q) (PX X.K G W ρ O σ H δ) := h1
      split at h2
      · rename_i d S3 hg
        exact ⟨ρ1, O, S1, x, [], d, S3, A1.st, r1, .nil, hg, fun ρ3 w H3 s3 R3 r3 => h2 ρ3 w H3 (s1.trans s3) (A1.of s3 R3) r3⟩
      · exact h2.elim
    · exact h1.elim
/-- xs.append(d) -/
def gApp (S : Sto) (x : D) (ds : List D) : Option (D × Sto) := match x, ds with
  | .loc n, [d] => match S[n]? with
    | some (.lst xs) => if xs.length < 1000000 then some (.non, S.set n (.lst (xs ++ [d]))) else none
    | _ => none
  | _, _ => none
theorem mt_app : MtR X "list.append" (rM X.K gApp) := by
  intro pins s σ H x xs v us Q I rx rs ⟨ρ, O, S, dx, ds, d, S', R, r1, r2, hg, k⟩
  unfold gApp at hg
  split at hg
  · rename_i n y
    split at hg
    · rename_i zs hS
      split at hg
      · rename_i hl
        cases hg
        obtain ⟨p, rfl, hn⟩ := r1.of_loc
        obtain ⟨w, rfl, rw'⟩ := repL_one r2
        cases R.cell n p _ hn hS with
        | lst hp rp => exact mt_append pins s σ H _ _ v us Q I rx rs ⟨p, _, w, rfl, rfl, hp, by rw [rp.ix.1]; exact Nat.lt_of_lt_of_le hl (LIM_le (Nat.le_refl _)), k ρ _ _ (stp_put hn) (put_cell R hn (rp.append (.cons rw' .nil))) .non⟩
      · cases hg
    · cases hg
  · cases hg
/-- xs.pop() -/
def gPop (S : Sto) (x : D) (ds : List D) : Option (D × Sto) := match x, ds with
  | .loc n, [] => match S[n]? with
    | some (.lst xs) => (xs[xs.length - 1]?).map fun d => (d, S.set n (.lst xs.dropLast))
    | _ => none
  | _, _ => none
theorem repL_dropLast {K : PySem.W.Frag} {ρ O : List Addr} {H : Hp} {vs : List V} {ds : List D} (r : RepL K ρ O H vs ds) : RepL K ρ O H vs.dropLast ds.dropLast := by
  refine .of_ix (by simp [r.ix.1]) fun i v d h1 h2 => ?_
  simp only [List.getElem?_dropLast] at h1 h2
  split at h1
  · split at h2
    · exact r.ix.2 i v d h1 h2
    · cases h2
  · cases h1
theorem mt_popD : MtR X "list.pop" (rM X.K gPop) := by
  intro pins s σ H x xs v us Q I rx rs ⟨ρ, O, S, dx, ds, d, S', R, r1, r2, hg, k⟩
  unfold gPop at hg
  split at hg
  · rename_i n
    split at hg
    · rename_i zs hS
      cases hz : zs[zs.length - 1]? with
      | none => rw [hz] at hg; cases hg
      | some e =>
        rw [hz] at hg; cases hg
        obtain ⟨p, rfl, hn⟩ := r1.of_loc
        cases r2
        cases R.cell n p _ hn hS with
        | lst hp rp =>
          obtain ⟨w, hw, rw'⟩ := repL_get rp hz
          exact mt_pop pins s σ H _ _ v us Q I rx rs ⟨p, _, w, rfl, rfl, hp, by rw [rp.ix.1]; exact hw, k ρ _ _ (stp_put hn) (put_cell R hn (repL_dropLast rp)) (rw'.mono R (stp_put hn))⟩
    · cases hg
  · cases hg
/-! ### texts -/
def strsOf : List D → Option (List (List Nat))
  | [] => some []
  | .str b :: r => (strsOf r).map (b :: ·)
  | _ => none
theorem strsOf_map : ∀ {ds : List D} {bs : List (List Nat)}, strsOf ds = some bs → ds = bs.map D.str
  | [], _, h => by cases h; rfl
  | d :: r, bs, h => by
    cases d with
    | str b =>
      have h' : (strsOf r).map (b :: ·) = some bs := h
      cases e : strsOf r with
      | none => rw [e] at h'; cases h'
      | some cs => rw [e] at h'; cases h'; rw [strsOf_map e]; rfl
    | _ => cases h
def gJoin (S : Sto) (x : D) (ds : List D) : Option (D × Sto) := match x, ds with
  | .str z, [d] => match (seqOf S d).bind strsOf with
    | some bs => if (bs.map (·.length)).sum + bs.length * z.length ≤ 1000000 then some (.str (TL.joinL z bs), S) else none
    | none => none
  | _, _ => none
theorem mt_joinD : MtR X "str.join" (rM X.K gJoin) := by
  intro pins s σ H x xs v us Q I rx rs ⟨ρ, O, S, dx, ds, d, S', R, r1, r2, hg, k⟩
  unfold gJoin at hg
  split at hg
  · rename_i z e
    split at hg
    · rename_i bs hb
      split at hg
      · rename_i hl
        cases hg; cases r1
        obtain ⟨w, rfl, rw'⟩ := repL_one r2
        cases hs : seqOf S e with
        | none => rw [hs] at hb; cases hb
        | some es =>
          rw [hs] at hb
          have := strsOf_map hb
          subst this
          obtain ⟨a, vs, rfl, h1, q⟩ := seqOf_rep R rw' hs
          rw [repL_strs q] at h1
          have el : ((bs.map tx).map (·.length)).sum = (bs.map (·.length)).sum := by
            rw [List.map_map]; exact congrArg List.sum (List.map_congr_left fun b _ => tx_len b)
          refine mt_join pins s σ H _ _ v us Q I rx rs ⟨tx z, a, bs.map tx, rfl, rfl, h1, by rw [el, List.length_map, tx_len]; omega, ?_⟩
          have e2 : Txt.join (tx z) (bs.map tx) = tx (TL.joinL z bs) := TL.ext_tl (by
            rw [TL.join_eq, TL.tl_join]
            show _ = (tx (TL.joinL z bs)).cps.toList
            rw [tx_list]
            show TL.joinL (tx z).cps.toList _ = _
            rw [tx_list, List.map_map]
            congr 1
            exact (List.map_congr_left fun b _ => tx_list b).trans (List.map_id' bs))
          rw [e2]; exact k ρ _ H (.refl _ _) R (.str _)
      · cases hg
    · cases hg
  · cases hg
/-- x.split(sep), sep a written plain text -/
def gSplit (S : Sto) (x : D) (ds : List D) : Option (List D) := match x, ds with
  | .str z, [.str y] => if y.isEmpty = false ∧ z.length ≤ 1000000 ∧ (y.all fun c => decide (c < 256)) = true then some ((TL.spl y 0 [] z).map .str) else none
  | _, _ => none
/-- x.partition(sep) -/
def gPart (S : Sto) (x : D) (ds : List D) : Option (D × Sto) := match x, ds with
  | .str z, [.str y] => if y.isEmpty = false ∧ z.length ≤ 1000000 then some (match TL.par y [] z with
    | some (a, b) => .tup [.str a, .str y, .str b]
    | none => .tup [.str z, .str [], .str []], S) else none
  | _, _ => none
theorem repL_cons {K : PySem.W.Frag} {ρ O : List Addr} {H : Hp} {zs : List (List Nat)} : RepL K ρ O H ((zs.map tx).map V.str) (zs.map D.str) := by
  induction zs with
  | nil => exact .nil
  | cons z zs ih => exact .cons (.str z) ih
theorem mt_partD : MtR X "str.partition" (rM X.K gPart) := by
  intro pins s σ H x xs v us Q I rx rs ⟨ρ, O, S, dx, ds, d, S', R, r1, r2, hg, k⟩
  unfold gPart at hg
  split at hg
  · rename_i z y
    split at hg
    · rename_i hl
      cases hg; cases r1
      obtain ⟨w, rfl, rw'⟩ := repL_one r2
      cases rw'
      have hy : y ≠ [] := fun e => by rw [e] at hl; simp at hl
      have ey : TL.tl (tx y) = y := tx_list y
      refine mt_partition pins s σ H _ _ v us Q I rx rs ⟨tx z, tx y, rfl, rfl, by rw [tx_len]; simpa using hy, by rw [tx_len]; exact LIM_le hl.2, fun p np => ?_⟩
      rw [TL.partition_par (tx z) (tx y) (by rw [ey]; exact hy), ey]
      have ez : TL.tl (tx z) = z := tx_list z
      rw [ez]
      refine k ρ _ _ (stp_new np) (R.new np) ?_
      cases e : TL.par y [] z with
      | none => exact .tupL (.of upd_same) (.cons (.str z) (.cons (.str []) (.cons (.str []) .nil)))
      | some ab => exact .tupL (.of upd_same) (.cons (.str ab.1) (.cons (.str y) (.cons (.str ab.2) .nil)))
    · cases hg
  · cases hg
end
end Mp

/-! Mp, part 11: own exceptions: made, raised, caught. -/
namespace Mp
open PySem PySem.Spec L2
open PyProof.Rows hiding St

/-! ### an own class's __init__: the base's is called, one field is set -/
def spIni (C : Addr) (f : Str) : Sp := fun vs H Q _ => ∃ (a : Addr) (v : V), vs = [.ref a, v] ∧ H a = some (exo a C none) ∧ ∀ dx, H dx = none → dx ≠ a → Q .non (upd (upd H dx (exd dx [(f, v)])) a (exo a C (some dx)))
section
variable {X : Cx} {e : Expr} {es : List Expr} {ta : TA} {p1 p2 pos : Pos} {b : Str} {B : Addr}
theorem pe_baseinit {pl : Sem Bool} (hg : Gl X b) (hm : X.mg b = some (.ref B)) (ga : PySem.W.specialIn X.K (.ref B) "__getattribute__" = some (some (.builtin "type.__getattribute__"))) (hr : PySem.W.readsIn X.K B (.type "type") = true)
    (hf : PySem.W.findCls X.K (.ref B) (.type "type") "__init__" = some (.val (.builtin "ValueError.__init__"))) (ha : PA X (e :: es) ta)
    (hc : eval (.Call (.Attribute (.Name b p1) "__init__" p2) (e :: es) [] pos) X.env = (do
      let ov ← eval (.Name b p1) X.env
      standAt p2.atName
      let (f, first) ← holding [ov] (getMethod ov "__init__" pl)
      callWith pos f first (backTo pos (starEach (e :: es) X.env)) (backToKw pos (keywordEach [] X.env))) := by rfl)
    (hdb : (b == ("__debug__" : Str)) = false := by decide)
    (he : starEach (e :: es) X.env = (false, eval e X.env) :: starEach es X.env := by rfl) (hpl : (backTo pos (starEach es X.env)).any (·.1) = false := by rfl) :
    PE X (.Call (.Attribute (.Name b p1) "__init__" p2) (e :: es) [] pos) (tVeI X.K ta) := by
  refine ⟨fun pins s σ H Q I h => ?_⟩
  refine PySem.W.methodCall_KW (ld_glob I hg hm ?_ hdb) hc
  refine PySem.W.method_cls I.kIn ga (PySem.W.cls_value I.kIn hr hf (by decide) ?_)
  show wpAny _ _ (callWith pos (Value.builtin "ValueError.__init__") [] (backTo pos (starEach (e :: es) X.env)) []) _ _ _
  refine PyProof.Rows.callWith_method1 (thn (ha.run pos pins _ σ H _ (I.tok _) h) fun us s1 ⟨vs, H1, I1, r1, a, C, ws, ev, hl, T, ea, q⟩ => ?_) he hpl
  subst ev
  cases r1 with
  | @cons _ u0 _ ur ra rw' =>
    obtain rfl : u0 = Value.ref a := ra
    have hlen : ur.length ≤ sizeLine := by rw [← Paired.length rw', sizeLine_eq]; omega
    exact oinit_ok T I1 ea hlen fun s' J => ⟨.non, H1, J, rfl, q⟩
end
/-- what is known of an own exception's class -/
structure OwnX (P : Program) (w : World) (K : PySem.W.Frag) (mg : Str → Option Value) (base : Heap) (G : Glo) (c : Nat) (x f : Str) : Prop where
  T : OexC K (G.ca c)
  xf : XfC K (G.ca c)
  no : PySem.W.findIn K (.ref (G.ca c)) f = some none
  fl : G.fld c = f
  gC : mg x = some (.ref (G.ca c))
  ini : ∃ fI fd ps, PySem.W.findIn K (.ref (G.ca c)) "__init__" = some (some (.ref fI)) ∧ PySem.W.typeIn K (.ref fI) = some (.type "function") ∧
    FnOk P w K mg base (L2.CX P w) 2 fI fd ps (spIni (G.ca c) f) ∧ Binds K fd ps []
theorem ini_ok {P : Program} {w : World} {K : PySem.W.Frag} {mg : Str → Option Value} {base : Heap} {q f m x : Str} {st : Stmt} {fI C : Addr} {fd : FuncData} (F : FunD K "__init__" q (defArgs st) (defBody st) (defScope st) [] [] fI fd) (S : FnScope ["self", x] ["self", x] (defScope st))
    (T : OexC K C) (hno : PySem.W.findIn K (.ref C) f = some none)
    (hb : ∀ (cdv : Value) (A : Around) (outer : List Env) (s : Shared) (H : Hp) (E : XK), PSs (cxOf (L2.CX P w) P w K mg base ["self", x] q (defScope st) fI cdv A outer s H E) (defBody st)
      (tSeq (tDrop (tVeI K (tCons (tVar 0) (tCons (tC (.str m)) tNil)))) (tOst K f (tVar 0) (tVar 1)))) : FnOk P w K mg base (L2.CX P w) 2 fI fd ["self", x] (spIni C f) := by
  refine F.ok S (fun vs H Q E h => ?_) (fun cdv A outer s H vs Q E hroom h => ⟨_, hb cdv A outer s H E, ?_⟩)
  · obtain ⟨a, v, rfl, _⟩ := h; rfl
  · obtain ⟨a, v, rfl, ha, hq⟩ := h
    refine ⟨_, rfl, a, C, [.str m], rfl, (by show 1 ≤ 1000; decide), T, ha, ?_⟩
    exact ⟨v, rfl, _, rfl, a, C, rfl, T, hno, .inl ⟨ha, fun dx nd ne => hq dx nd ne⟩⟩
/-! ### raise C(e) -/
def sRaise (c : Nat) (a : Ev) : EvS := fun δ S => (a δ S).out δ fun d S1 => .ex ⟨c, some d⟩ δ S1
section
variable {X : Cx} {G : Glo} {W : WX} {a b c : Expr} {ea eb ec : Ev} {ta tb tc : EvB} {s : Stmt} {ss : List Stmt} {es es' : EvS} {pos : Pos}
theorem upd_made {H : Hp} {a dx C : Addr} {f : Str} {v : V} (na : H a = none) (ne : dx ≠ a) : upd (del (upd (upd (upd H a (exo a C none)) dx (exd dx [(f, v)])) a (exo a C (some dx))) a) dx (.xd [(f, v)]) = upd H dx (.xd [(f, v)]) := by
  funext b
  by_cases e : b = dx
  · rw [e, upd_same, upd_same]
  · rw [upd_ne e, upd_ne e]
    by_cases e2 : b = a
    · rw [e2, del_same, na]
    · rw [del_ne e2, upd_ne e2, upd_ne e, upd_ne e2]
theorem SS.raise {c : Nat} {x f : Str} {p : Pos} (R : OwnX X.prog X.w X.K X.mg X.base G c x f) (hc : X.calm = true) (tk : Takes X W) (hr : Room 3 X.A) (hg : Gl X x) (ha : SE X G W a ea) (hdb : (x == ("__debug__" : Str)) = false := by decide)
    (h1 : starEach [a] X.env = (false, eval a X.env) :: starEach [] X.env := by rfl) (hpl : (backTo pos (starEach [] X.env)).any (·.1) = false := by rfl) {pos2 : Pos} :
    SS X G W (.Raise (some (.Call (.Name x p) [a] [] pos)) none pos2) (sRaise c ea) := by
  obtain ⟨fI, fd, ps, iC, tI, F, hb⟩ := R.ini
  refine (ps_raise hc tk (pmk_oex R.T iC tI F hr hb .nil (passes_call tk fun _ _ _ _ z => z.elim) hg R.gC (pa_cons ha pa_nil h1) hdb h1 hpl)).conseq fun D σ H ⟨ρ, O, δ, S, A, h⟩ => ?_
  refine Post.ofO A h fun d S1 ρ1 v H1 h1 s1 A1 r1 => ?_
  refine ⟨(by show 1 ≤ 1000; decide), fun a na => ⟨a, v, rfl, upd_same, fun dx nd ne => ⟨rfl, dx, [(f, v)], upd_same, ?_, ?_, ?_⟩⟩⟩
  · rw [upd_ne ne, upd_same]
  · rw [upd_ne ne] at nd; exact nd
  · have nd' : H1 dx = none := by rw [upd_ne ne] at nd; exact nd
    rw [upd_made na ne]
    exact h1 ρ1 σ _ (some dx) _ (stp_new nd') (A1.of (stp_new nd') (A1.st.new nd')) ⟨rfl, dx, v, rfl, by rw [upd_same, R.fl], r1.mono A1.st (stp_new nd')⟩

/-! ### try: body / except C as n: suite -/
def Glo.suite (G : Glo) (m : Hnd) : Glo := { G with am := some m }
/-- behind the suite the name is gone -/
def Out.drop (i : Nat) : Out → Out
  | .nx δ S => .nx (δ.set i none) S
  | .bk δ S => .bk (δ.set i none) S
  | .ct δ S => .ct (δ.set i none) S
  | .rt d S => .rt d S
  | _ => .bad
def sTryAs (i : Nat) (m : Nat → Option Bool) (body : EvS) (su : Exn → EvS) : EvS := fun δ S => match body δ S with
  | .ex x δ1 S1 => (match m x.c, x.v with
    | some true, some _ => (su x (δ1.set i none) S1).drop i
    | some false, _ => .ex x δ1 S1
    | _, _ => .bad)
  | o => o
def Out.calm : Out → Out
  | .ex _ _ _ => .bad
  | o => o
def sTryO (m : Nat → Option Bool) (body : EvS) (su : Exn → EvS) : EvS := fun δ S => match body δ S with
  | .ex x δ1 S1 => (match m x.c with
    | some true => (su x δ1 S1).calm
    | some false => .ex x δ1 S1
    | none => .bad)
  | o => o
/-- what a suite knows of the exception that it holds -/
structure Holds (G : Glo) (x : Exn) (m : Hnd) (a : Addr) (i : Nat) (cls : Value) (d : Option Addr) : Prop where
  c : cls = .ref (G.ca x.c)
  d : d = some m.dd
  a : m.a = a
  i : m.i = i
  v : x.v = some m.d
  f : m.f = G.fld x.c
theorem RelA.held {K : PySem.W.Frag} {ρ O : List Addr} {σ : St} {H : Hp} {δ : Sl} {S : Sto} {m : Hnd} (A : RelA K G ρ O σ H δ S) (h : HndR K ρ O H m) : RelA K (G.suite m) ρ O (σ.set m.i (some (.ref m.a))) H (δ.set m.i none) S := by
  refine ⟨A.st, by simp [A.len], fun j d e => ?_, fun m' e q => ?_, fun m' e => ?_⟩
  · by_cases hj : j = m.i
    · subst hj
      have hl := (List.getElem?_eq_some_iff.mp e).1
      rw [List.getElem?_set_self (by simpa using hl)] at e; cases e
    · rw [List.getElem?_set_ne (Ne.symm hj)] at e ⊢
      exact A.slot j d e
  · cases e
    have hl := (List.getElem?_eq_some_iff.mp q).1
    rw [List.getElem?_set_self (by rw [A.len]; simpa using hl)]
  · cases e; exact h
theorem RelA.letgo {K : PySem.W.Frag} {ρ O : List Addr} {σ : St} {H : Hp} {δ : Sl} {S : Sto} {m : Hnd} {i : Nat} (hG : G.off) (A : RelA K (G.suite m) ρ O σ H δ S) : RelA K G ρ O (σ.set i none) H (δ.set i none) S := by
  refine ⟨A.st, by simp [A.len], fun j d e => ?_, fun m' e => (by rw [hG] at e; cases e), fun m' e => (by rw [hG] at e; cases e)⟩
  by_cases hj : j = i
  · subst hj
    have hl := (List.getElem?_eq_some_iff.mp e).1
    rw [List.getElem?_set_self (by simpa using hl)] at e; cases e
  · rw [List.getElem?_set_ne (Ne.symm hj)] at e ⊢
    exact A.slot j d e
theorem SS.tryAs {i : Nat} {x n : Str} {cv : Value} {body suite : List Stmt} {b₀ : Stmt} {np pos' : Pos} {m : Nat → Option Bool} {eb : EvS} {su : Exn → EvS} (hG : G.off) (hs : X.stack = X.env :: X.outer) (hf : X.env.frame = some X.env.locals) (hN : X.N.Nodup) (hi : X.N[i]? = some n) (hln : X.env.kindOf n = some .local) (hc : Names X x cv) (tk : Takes X W)
    (hm : ∀ c k, m c = some k → PySem.W.exmOne X.K (.ref (G.ca c)) cv = some k)
    (hb : ∀ (W : WX) (pn : List (Addr × Obj)) (xe : Value → Shared → Prop), Takes (X.tr pn xe) W → PassesOwn (model X.prog X.w) X.A X.env xe → SSs (X.tr pn xe) G W body eb)
    (hsu : ∀ (x : Exn) (mh : Hnd) (a : Addr) (oe : Obj) (cls : Value) (d : Option Addr) (pn : List (Addr × Obj)), m x.c = some true → Holds G x mh a i cls d → Zc cls d oe → (∃ vs, oe.data = .fields vs) → SSs (X.suite a ((a, oe) :: pn)) (G.suite mh) W0 (b₀ :: suite) (su x)) :
    SS X G W (.Try body [.ExceptHandler (some (.Name x np)) (some n) (b₀ :: suite) pos'] [] [] pos) (sTryAs i m eb su) :=
  (ps_try_as (tb := fun W => PostS X.K G W eb) (ts := fun a cls d D σ H => ∃ x mh, m x.c = some true ∧ Holds G x mh a i cls d ∧ PostS X.K (G.suite mh) W0 (su x) D σ H) hs hf hN hi hln hc tk hb
    (fun a oe cls d pn hz hf' => ⟨fun pins s σ H D I ⟨x, mh, h1, h2, h3⟩ => (hsu x mh a oe cls d pn h1 h2 hz hf').run pins s σ H D I h3⟩)).conseq fun D σ H ⟨ρ, O, δ, S, A, h⟩ => by
    refine PostS.of A ?_
    unfold sTryAs at h
    generalize eb δ S = o at h
    cases o with
    | nx δ1 S1 => exact h
    | rt d S => exact h
    | bk δ S => exact h
    | ct δ S => exact h
    | bad => exact h
    | ex x δ1 S1 =>
      intro ρ1 σ1 cls dd H1 s1 A1 r1
      dsimp only at h
      cases hmc : m x.c with
      | none => rw [hmc] at h; exact h.elim
      | some k =>
        rw [hmc] at h
        obtain ⟨rc, rv⟩ := r1
        refine ⟨k, by rw [rc]; exact hm _ _ hmc, fun ek a na => ?_, fun ek => ?_⟩
        · subst ek
          cases hv : x.v with
          | none => rw [hv] at h; exact h.elim
          | some d =>
            rw [hv] at h rv
            obtain ⟨e, v, ed, he, rd⟩ := rv
            refine ⟨x, ⟨i, a, e, G.fld x.c, v, d⟩, hmc, ⟨rc, ed, rfl, rfl, hv, rfl⟩, PostS.of (A1.held (m := ⟨i, a, e, G.fld x.c, v, d⟩) ⟨he, rd⟩) ?_⟩
            have h1 : OT X.K G W ρ1 O H1 D ((su x (δ1.set i none) S1).drop i) := OT.later s1 h
            generalize su x (δ1.set i none) S1 = o at h1
            cases o with
            | nx δ2 S2 => exact fun ρ2 σ2 H2 s2 A2 => h1 ρ2 _ H2 s2 (A2.letgo hG)
            | bk δ2 S2 => exact fun ρ2 σ2 H2 s2 A2 => h1 ρ2 _ H2 s2 (A2.letgo hG)
            | ct δ2 S2 => exact fun ρ2 σ2 H2 s2 A2 => h1 ρ2 _ H2 s2 (A2.letgo hG)
            | rt d S2 => exact h1
            | ex _ _ _ => exact h1.elim
            | bad => exact h1.elim
        · subst ek
          exact h ρ1 σ1 cls dd H1 s1 A1 ⟨rc, rv⟩
theorem SS.tryO {x : Str} {cv : Value} {body suite : List Stmt} {b₀ : Stmt} {np pos' : Pos} {m : Nat → Option Bool} {eb : EvS} {su : Exn → EvS} (hs : X.stack = X.env :: X.outer) (hf : X.env.frame = some X.env.locals) (hc : Names X x cv) (tk : Takes X W)
    (hm : ∀ c k, m c = some k → PySem.W.exmOne X.K (.ref (G.ca c)) cv = some k)
    (hb : ∀ (W : WX) (pn : List (Addr × Obj)) (xe : Value → Shared → Prop), Takes (X.tr pn xe) W → PassesOwn (model X.prog X.w) X.A X.env xe → SSs (X.tr pn xe) G W body eb)
    (hsu : ∀ (x : Exn) (a : Addr) (oe : Obj) (pn : List (Addr × Obj)), m x.c = some true → SSs (X.suite a ((a, oe) :: pn)) G W0 (b₀ :: suite) (su x)) :
    SS X G W (.Try body [.ExceptHandler (some (.Name x np)) none (b₀ :: suite) pos'] [] [] pos) (sTryO m eb su) :=
  (ps_try_only (tb := fun W => PostS X.K G W eb) (ts := fun a cls d D σ H => ∃ x, m x.c = some true ∧ PostS X.K G W0 (su x) D σ H) hs hf hc tk hb
    (fun a oe cls d pn hz hf' => ⟨fun pins s σ H D I ⟨x, h1, h3⟩ => (hsu x a oe pn h1).run pins s σ H D I h3⟩)).conseq fun D σ H ⟨ρ, O, δ, S, A, h⟩ => by
    refine PostS.of A ?_
    unfold sTryO at h
    generalize eb δ S = o at h
    cases o with
    | nx δ1 S1 => exact h
    | rt d S => exact h
    | bk δ S => exact h
    | ct δ S => exact h
    | bad => exact h
    | ex x δ1 S1 =>
      intro ρ1 σ1 cls dd H1 s1 A1 r1
      dsimp only at h
      cases hmc : m x.c with
      | none => rw [hmc] at h; exact h.elim
      | some k =>
        rw [hmc] at h
        refine ⟨k, by rw [r1.1]; exact hm _ _ hmc, fun ek a na => ?_, fun ek => ?_⟩
        · subst ek
          refine ⟨x, hmc, PostS.of A1 ?_⟩
          have h1 : OT X.K G W ρ1 O H1 D (su x δ1 S1).calm := OT.later s1 h
          generalize su x δ1 S1 = o at h1
          cases o with
          | ex _ _ _ => exact h1.elim
          | nx _ _ => exact h1
          | bk _ _ => exact h1
          | ct _ _ => exact h1
          | rt _ _ => exact h1
          | bad => exact h1
        · subst ek
          exact h ρ1 σ1 cls dd H1 s1 A1 r1
/-! ### n.f in a suite -/
def cXf (i : Nat) (x : Exn) : Ev := fun δ S => match δ[i]?, x.v with
  | some none, some d => .ok d S
  | _, _ => .bad
theorem SE.xf {c i : Nat} {y n : Str} {a : Addr} {oe : Obj} {cls : Value} {d : Option Addr} {pn : List (Addr × Obj)} {x : Exn} {mh : Hnd} {p : Pos} (T : XfC X.K (G.ca c)) (hno : PySem.W.findIn X.K (.ref (G.ca c)) n = some none) (hfl : G.fld c = n) (hx : x.c = c)
    (hh : Holds G x mh a i cls d) (hz : Zc cls d oe) (hf : ∃ vs, oe.data = .fields vs) (hN : X.N[i]? = some y) (hv : Vis X.env.scope y) (hb : attributeBase (.Name y p) n X.env (eval (.Name y p) X.env) = eval (.Name y p) X.env := by rfl)
    (hd : (y == ("__debug__" : Str)) = false := by decide) (hcd : (y == ("__classdict__" : Str)) = false := by decide) : SE (X.suite a ((a, oe) :: pn)) (G.suite mh) W (.Attribute (.Name y p) n pos) (cXf i x) := by
  subst hx
  refine (pe_xf T hno hz hf (pe_var (X := X.suite a ((a, oe) :: pn)) hN hv hd hcd) hb).conseq fun σ H Q ⟨ρ, O, δ, S, A, h⟩ => ?_
  unfold cXf at h
  split at h
  · rename_i dv e1 e2
    have e3 : dv = mh.d := Option.some.inj (e2.symm.trans hh.v)
    subst e3
    have hx := A.hx mh rfl
    refine ⟨.ref a, ?_, rfl, hh.c, mh.dd, _, mh.v, hh.d, hx.1, ?_, h ρ mh.v H (.refl _ _) A hx.2⟩
    · rw [← hh.i, A.hs mh rfl (by rw [hh.i]; exact e1), hh.a]
    · rw [hh.f, hfl]; simp [List.lookup]
  · exact h.elim
end
end Mp

/-! Mp, part 12: more methods of texts. -/
namespace Mp
open PySem PySem.Spec L2
open PyProof.Rows hiding St
def rMF (K : PySem.W.Frag) (g : Sto → D → List D → Option (List D)) : V → List V → Hp → VK → Prop := fun x xs H Q => ∃ ρ O S dx ds zs, RelS K ρ O H S ∧ RepV K ρ O H x dx ∧ RepL K ρ O H xs ds ∧ g S dx ds = some zs ∧
  ∀ a vs, H a = none → RepL K ρ O H vs zs → Q (.ref a) (upd H a (.lst vs))
def cMF (T : String) (g : Sto → D → List D → Option (List D)) (o : Ev) (args : Sl → Sto → Res (List D)) : Sl → Sto → Res (List D) := fun δ S => (o δ S).bind fun x S1 => if isTy T S1 x = true then (args δ S1).bind fun ds S2 => match g S2 x ds with
  | some zs => .ok zs S2
  | none => .bad else .bad
section
variable {X : Cx} {G : Glo} {W : WX} {o a b c e : Expr} {es : List Expr} {eo ea eb ec te : Ev} {er : Sl → Sto → Res (List D)} {pos : Pos}
theorem SF.bm {T id : String} {name : Str} {apos : Pos} {g : Sto → D → List D → Option (List D)} (pa : PlainAttrs T) (slot : Slot T name id) (hty : typeOf (.builtin id) = pure (.type "method_descriptor")) (hm : MtR X id (rMF X.K g)) (ho : SE X G W o eo) (ha : SA X G W (e :: es) er)
    (hbase : attributeBase o name X.env (eval o X.env) = eval o X.env := by rfl)
    (hfew : ((backTo pos (starEach (e :: es) X.env)).all (fun x => !x.1) && (backToKw pos (keywordEach [] X.env)).all (fun x => x.1.isSome) && decide ((e :: es).length + ([] : List Keyword).length + (if ([] : List Keyword).isEmpty then 0 else 1) < 30)) = true := by rfl)
    (hline : (apos.endLine == pos.line) = true := by rfl) (hs : starEach (e :: es) X.env = (false, eval e X.env) :: starEach es X.env := by rfl) (hplain : (backTo pos (starEach es X.env)).any (·.1) = false := by rfl) :
    SF X G W (.Call (.Attribute o name apos) (e :: es) [] pos) (cMF T g eo er) :=
  (pe_bm pa slot hty hm ho ha hbase hfew hline hs hplain).conseq fun σ H Q ⟨ρ, O, δ, S, A, h⟩ => Post.run A h fun x S1 ρ1 v H1 h1 s1 A1 r1 => by
    split at h1
    · rename_i ht
      refine ⟨isTy_rep A1.st r1 ht, ρ1, O, δ, S1, A1, (Res.To.bind h1).imp (fun ds S2 h2 ρ2 vs H2 s2 A2 r2 => ?_) fun _ _ e => PX.mono e s1⟩
      split at h2
      · rename_i zs hg
        exact ⟨ρ2, O, S2, x, ds, zs, A2.st, r1.mono A1.st s2, r2, hg, fun p ws np rz => h2 ρ2 p ws _ (s1.trans (s2.trans (stp_new np))) (A2.barred np) (np_back (s1.trans s2) A2.st np) (A2.st.free np).2 upd_same ((rz.bar np).monoM (fun _ h => A2.st.mut h) (stp_new np))⟩
      · exact h2.elim
    · exact h1.elim
theorem mt_splitD : MtR X "str.split" (rMF X.K gSplit) := by
  intro pins s σ H x xs v us Q I rx rs ⟨ρ, O, S, dx, ds, zs, R, r1, r2, hg, k⟩
  unfold gSplit at hg
  split at hg
  · rename_i z y
    split at hg
    · rename_i hl
      cases hg; cases r1
      obtain ⟨w, rfl, rw'⟩ := repL_one r2
      cases rw'
      have hy : y ≠ [] := fun e => by rw [e] at hl; simp at hl
      refine mt_split pins s σ H _ _ v us Q I rx rs ⟨tx z, tx y, rfl, rfl, by rw [tx_len]; simpa using hy, by rw [tx_len, sizeLine_eq]; omega, fun p np => ?_⟩
      have e2 : Txt.split (tx z) (tx y) = (TL.spl y 0 [] z).map tx := SX.split_S hy hl.2.2
      rw [e2]
      exact k p _ np repL_cons
    · cases hg
  · cases hg
/-- x.index(y) -/
def gSidx (S : Sto) (x : D) (ds : List D) : Option (D × Sto) := match x, ds with
  | .str z, [.str y] => (Builtin.Str.occurrences (tx z) (tx y) 0 (tx z).length 1).head?.map fun i => (.int (i : Nat), S)
  | _, _ => none
theorem mt_sindexD : MtR X "str.index" (rM X.K gSidx) := by
  intro pins s σ H x xs v us Q I rx rs ⟨ρ, O, S, dx, ds, d, S', R, r1, r2, hg, k⟩
  unfold gSidx at hg
  split at hg
  · rename_i z y
    cases e : Builtin.Str.occurrences (tx z) (tx y) 0 (tx z).length 1 with
    | nil => rw [e] at hg; cases hg
    | cons i rest =>
      rw [e] at hg; cases hg; cases r1
      obtain ⟨w, rfl, rw'⟩ := repL_one r2
      cases rw'
      exact mt_sindex pins s σ H _ _ v us Q I rx rs ⟨_, _, i, rest, rfl, rfl, e, k ρ _ H (.refl _ _) R (.int _)⟩
  · cases hg
end
end Mp

/-! Mp, part 13: defs, the facts of the written part, the end of a law. -/
namespace Mp
open PySem PySem.Spec L2
open PyProof.Rows hiding St

/-! ### a def's meaning by its body's -/
def Out.fin : Out → Res D
  | .rt d S => .ok d S
  | .nx _ S => .ok .non S
  | .ex x _ S => .exc x S
  | _ => .bad
def bodyF (N : Nat) (b : EvS) : List D → Sto → Res D := fun ds S => (b (ds.map some ++ List.replicate (N - ds.length) none) S).fin
section
variable {P : Program} {w : World} {K : PySem.W.Frag} {mg : Str → Option Value} {base : Heap} {G : Glo}
theorem relL_get {ρ O : List Addr} {H : Hp} {vs : List V} {ds : List D} (r : RepL K ρ O H vs ds) (n : Nat) {i : Nat} {d : D} (h : (ds.map some ++ List.replicate n none)[i]? = some (some d)) : ∃ v, (vs.map some ++ List.replicate n none)[i]? = some (some v) ∧ RepV K ρ O H v d := by
  induction r generalizing i with
  | nil =>
    simp only [List.map_nil, List.nil_append, List.getElem?_replicate] at h
    split at h <;> cases h
  | cons r0 _ ih =>
    cases i with
    | zero =>
      simp only [List.map_cons, List.cons_append, List.getElem?_cons_zero] at h ⊢
      cases h; exact ⟨_, rfl, r0⟩
    | succ i =>
      simp only [List.map_cons, List.cons_append, List.getElem?_cons_succ] at h ⊢
      exact ih h
/-- a def by a walk of its body -/
theorem fnG_body {x qual : Str} {params : Arguments} {body : List Stmt} {scope : Scope} {dvs : List V} {kws : List (Str × V)} {f : Addr} {fd : FuncData} {N ps : List Str} {k : Nat} {b : EvS} (hG : G.off) (F : FunD K x qual params body scope dvs kws f fd) (S : FnScope N ps scope)
    (hb : ∀ (cdv : Value) (B : Around) (o : List Env) (z : Shared) (H : Hp) (E : XK), B.guards = some [] → Room k (B.deeper (envOfC qual scope z.heap.objs.size f cdv)) →
      SSs (cxOf (L2.CX P w) P w K mg base N qual scope f cdv B o z H E) G (fun cls d _ H => E cls d H) body b) : FnG P w K mg base (k + 1) f fd ps (spOf K G ps.length (bodyF N.length b)) := by
  obtain ⟨oc, od, dV, kV, doc, pm, an, cdv, ct, osl, rfl, lk, hcd, _, _⟩ := F.ex
  refine ⟨fun vs H Q E h => h.1, fun B o z H ar us vs Q E hg hr e0 hbd r hsp => ?_⟩
  have keep : ∀ b u, base.get? b = some u → z.heap.get? b = some u := fun b u e => (e0.bs b u e).1
  have par : ∀ y ∈ ps.zip us, scope.names.lookup y.1 = some .local ∨ (scope.names.lookup y.1 = some .cell ∧ ((cellsFrom (z.heap.objs.size + 1) scope.names []).lookup y.1).isSome = true) := fun y hy =>
    (S.par y.1 (List.of_mem_zip (a := y.1) (b := y.2) hy).1).imp id fun q => ⟨q, PySem.W.cellsFrom_some _ _ _ (.inl q)⟩
  refine codeAny_call_function hr.depth (e0.mod.kin.keeps keep _ _ lk) rfl S.co S.gen rfl (PySem.W.codeRec_of (e0.mod.kin.keeps keep) hcd) (hbd _ _ _ _ (wpAny_newFunctionEnv_cells S.kind par fun env he z1 y => ?_))
  subst he
  refine ⟨(e0.mod.nolimit.keeps keep).keeps y.toInCall.keep, codeAny_func ?_⟩
  have ht := hb cdv B o z H E hg (hr.deeper _)
  obtain ⟨hl, ρ, O, ds, S0, R, rl, hf⟩ := hsp
  have hq : PostS K G (fun cls d _ H => E cls d H) b { nx := fun _ H' => Q .non H', rt := Q } (L2.start N vs) H := by
    have hlen : vs.length ≤ N.length := by
      have h1 := congrArg List.length S.pre
      rw [List.length_take] at h1; omega
    refine ⟨ρ, O, ds.map some ++ List.replicate (N.length - ds.length) none, S0, ⟨R, by unfold L2.start; simp [rl.ix.1], fun i d e => ?_, fun m e => (by rw [hG] at e; cases e), fun m e => (by rw [hG] at e; cases e)⟩, ?_⟩
    · unfold L2.start
      rw [rl.ix.1]
      exact relL_get rl _ e
    · unfold bodyF at hf
      generalize b (ds.map some ++ List.replicate (N.length - ds.length) none) S0 = out at hf
      cases out with
      | rt d S1 => exact hf
      | nx δ1 S1 => exact fun ρ' σ' H' s A => hf ρ' .non H' s A.st .non
      | ex x δ1 S1 => exact fun ρ' σ' cls dd H' s A r => hf ρ' cls dd H' s A.st r
      | bk _ _ => exact hf.elim
      | ct _ _ => exact hf.elim
      | bad => exact hf.elim
  refine wpAny_mono (ht.run [] z1 (L2.start N vs) H _ (inv_start S hr.hd e0 hl r y) hq) (fun fl z' hz => ?_) fun _ _ e => e
  cases fl with
  | ret u => obtain ⟨v, σ', H', J, rv, q⟩ := hz; exact ⟨v, H', J.os, J.bare, J.base, J.hok, rv, q⟩
  | next => obtain ⟨σ', H', J, q⟩ := hz; exact ⟨.non, H', J.os, J.bare, J.base, J.hok, rfl, q⟩
  | brk => obtain ⟨_, _, _, q⟩ := hz; exact q.elim
  | cont => obtain ⟨_, _, _, q⟩ := hz; exact q.elim
/-- a def of the module: how it is called, what it gives -/
structure DefG (P : Program) (w : World) (K : PySem.W.Frag) (mg : Str → Option Value) (base : Heap) (G : Glo) (k : Nat) (x : Str) (n : Nat) (g : List D → Sto → Res D) : Prop where
  ex : ∃ f fd ps, ps.length = n ∧ FnG P w K mg base k f fd ps (spOf K G n g) ∧ mg x = some (.ref f) ∧ PySem.W.keepIn K (.ref f) = true ∧ Binds K fd ps []
theorem defG_of {x : Str} {st : Stmt} {N ps : List Str} {k : Nat} {b : EvS} {fd : FuncData} (hG : G.off) (F : FunD K x x (defArgs st) (defBody st) (defScope st) [] [] (He.ga K x) fd) (S : FnScope N ps (defScope st)) (hm : mg x = some (.ref (He.ga K x)))
    (hbi : ∀ (kV doc pm : Value) (an : Option Addr) (cdv ct : Value) (us : List Value), us.length = ps.length → bindArgs (PySem.W.fnOf x x (defArgs st) (defBody st) (defScope st) .none kV doc pm an cdv ct) ⟨us, []⟩ = pure (ps.zip us))
    (hb : ∀ (cdv : Value) (B : Around) (o : List Env) (z : Shared) (H : Hp) (E : XK), B.guards = some [] → Room k (B.deeper (envOfC x (defScope st) z.heap.objs.size (He.ga K x) cdv)) →
      SSs (cxOf (L2.CX P w) P w K mg base N x (defScope st) (He.ga K x) cdv B o z H E) G (fun cls d _ H => E cls d H) (defBody st) b) : DefG P w K mg base G (k + 1) x ps.length (bodyF N.length b) :=
  ⟨_, fd, ps, rfl, fnG_body hG F S hb, hm, F.kp, F.bindsN hbi⟩
theorem DefG.eq {k n : Nat} {x : Str} {g g' : List D → Sto → Res D} (h : DefG P w K mg base G k x n g) (e : ∀ ds S, ds.length = n → g ds S = g' ds S) : DefG P w K mg base G k x n g' := by
  obtain ⟨f, fd, ps, h1, h2, h3⟩ := h.ex
  refine ⟨f, fd, ps, h1, ⟨fun vs H Q E hs => h2.ln vs H Q E ?_, fun B o z H ar us vs Q E hg hr e0 hb r hs => h2.go B o z H ar us vs Q E hg hr e0 hb r ?_⟩, h3⟩
  · obtain ⟨a, ρ, O, ds, S, R, rl, q⟩ := hs
    exact ⟨a, ρ, O, ds, S, R, rl, by rw [e ds S (by rw [← rl.ix.1, a])]; exact q⟩
  · obtain ⟨a, ρ, O, ds, S, R, rl, q⟩ := hs
    exact ⟨a, ρ, O, ds, S, R, rl, by rw [e ds S (by rw [← rl.ix.1, a])]; exact q⟩
end
section
variable {X : Cx} {G : Glo} {W : WX} {a b c : Expr} {ea eb ec : Ev} {pos : Pos} {es : List Expr} {er : Sl → Sto → Res (List D)}
theorem SE.fn {k j n : Nat} {x : Str} {g : List D → Sto → Res D} {p : Pos} (F : DefG X.prog X.w X.K X.mg X.base G k x n g) (hgu : X.A.guards = some []) (hr : Room j X.A) (tk : Takes X W) (ha : SA X G W (a :: es) er) (hkj : k ≤ j := by decide) (hg : Gl X x := by rfl) (hdb : (x == ("__debug__" : Str)) = false := by decide)
    (he : starEach (a :: es) X.env = (false, eval a X.env) :: starEach es X.env := by rfl) (hpl : (backTo pos (starEach es X.env)).any (·.1) = false := by rfl) :
    SE X G W (.Call (.Name x p) (a :: es) [] pos) (cCall n g er) := by
  obtain ⟨f, fd, ps, rfl, h2, h3, h4, h5⟩ := F.ex
  exact SE.call hgu h2 (hr.mono hkj) hg h3 h4 h5 tk ha hdb he hpl
theorem SE.fn0 {k j : Nat} {x : Str} {g : List D → Sto → Res D} {p : Pos} (F : DefG X.prog X.w X.K X.mg X.base G k x 0 g) (hgu : X.A.guards = some []) (hr : Room j X.A) (tk : Takes X W) (hkj : k ≤ j := by decide) (hg : Gl X x := by rfl) (hdb : (x == ("__debug__" : Str)) = false := by decide) :
    SE X G W (.Call (.Name x p) [] [] pos) (cCall0 g) := by
  obtain ⟨f, fd, ps, h1, h2, h3, h4, h5⟩ := F.ex
  have : ps = [] := List.length_eq_zero_iff.mp h1
  subst this
  exact SE.call0 hgu h2 (hr.mono hkj) hg h3 h4 h5 tk hdb
theorem room_u {k : Nat} {A : Around} (r : Room k A) : A.units + 70 < cLine := by have := r.un; omega
theorem room_e {k : Nat} {A : Around} (r : Room k A) : A.units + 64 < cLine := by have := r.un; omega
theorem room_i {k : Nat} {A : Around} (r : Room k A) : A.units + 65 < cLine := by have := r.un; omega
end
/-! ### the law's own call -/
theorem lawG_call {P : Program} {w : World} {K : PySem.W.Frag} {mg mb : Str → Option Value} {k : Nat} {fa a : Addr} {fd : FuncData} {x : Str} {g : List D → Sto → Res D} {G : Glo} {z : Shared} {us : List Value} {ns : List Int}
    (hK : K.In z.heap) (hn : z.heap.Ns mainGlobals mg) (hb : z.heap.Ns builtinsNs mb) (hbb : ∀ x : Str, x ≠ "__name__" → mb x = bootBuiltins x) (hlim : z.heap.NoLimit) (hgen : z.gens = #[]) (hob : z.heap.get? a = some { cls := .type "list", data := .seq us.toArray })
    (hi : IntsAre us ns) (hl : ns.length ≤ sizeLine) (hr : Room k callerA) (F : ∀ base : Heap, K.In base → base.Ns mainGlobals mg → FnG P w K mg base k fa fd [x] (spOf K G 1 g)) (hbi : ∀ (s : Shared) (u : Value), BindsTo s fd ⟨[u], []⟩ [(x, u)])
    (hg : ∃ S, g [.scr ns] [] = .ok (.bl true) S) :
    codeAny (model P w) callerA (.call (.ref fa) ⟨[.ref a], []⟩) (fun r z' => r = .ok (.ret (.bool true)) ∧ OldK z.heap z'.heap ∧ z'.os = z.os ∧ AllBare z'.gens) z := by
  have rv := vals_ints hi
  have core : ∀ H : Hp, Only H → SqF K H a (ns.map V.int) → HOk P w H z.heap → (∀ b, H b ≠ none → b = a) → (H a ≠ none → K.lookup a = none) →
      codeAny (model P w) callerA (.call (.ref fa) ⟨[.ref a], []⟩) (fun r z' => r = .ok (.ret (.bool true)) ∧ OldK z.heap z'.heap ∧ z'.os = z.os ∧ AllBare z'.gens) z := by
    intro H hO hS hok hA hKa
    have one : ∀ {b : Addr}, H b ≠ none → b = a := fun {b} h => hA b h
    have base_of : ∀ {b : Addr} {o : Obj}, z.heap.get? b = some o → H b = none → (hidT z.heap H).get? b = some o := fun e n => hidT_get e n
    have dic : ∀ {b : Addr} {o : Obj} {es : Array DictEntry} {ep : Nat}, z.heap.get? b = some o → o.data = .dict es ep → H b = none := fun {b o es ep} e d => by
      by_cases q : H b = none
      · exact q
      · rw [one q, hob] at e
        cases e; cases (show Data.seq us.toArray _ = Data.dict es ep from d)
    have nsK : ∀ {b : Addr} {m : Str → Option Value}, z.heap.Ns b m → (hidT z.heap H).Ns b m := fun {b m} ⟨o, es, ep, e, d, r⟩ => ⟨o, es, ep, base_of e (dic e d), d, r⟩
    have hKb : K.In (hidT z.heap H) := fun b o e => base_of (hK b o e) (by
      by_cases q : H b = none
      · exact q
      · have e' := one q
        subst e'
        rw [hKa q] at e; cases e)
    have e0 : Env0 P w K mg (hidT z.heap H) callerA [] z H := ⟨rfl, ⟨hKb, nsK hn, ⟨mb, nsK hb, hbb⟩, let ⟨mc, h1, h2⟩ := hlim; ⟨mc, nsK h1, h2⟩⟩, fun b o e => of_hidT e, Nat.le_of_eq (hidT_size _ _), trivial, fun b hb => absurd (show b ∈ ([] : List Addr) from hb) (List.not_mem_nil), hok, .of_eq hgen⟩
    obtain ⟨S, hS'⟩ := hg
    have sp : spOf K G 1 g [.ref a] H (fun v _ => v = .bl true) (fun _ _ _ => False) := by
      refine ⟨rfl, [], [], [.scr ns], [], ⟨rfl, .nil, fun n b c h => by simp at h, fun b h => nomatch h⟩, .cons (.scr hS) .nil, ?_⟩
      rw [hS']
      exact fun ρ' v H' _ _ r => by cases r; rfl
    refine codeAny_mono ((F _ hKb (nsK hn)).go callerA [] z H ⟨[.ref a], []⟩ [.ref a] [.ref a] _ _ rfl hr e0 (hbi z (.ref a)) (.cons rfl .nil) sp) fun r z' h => ?_
    match r, h with
    | .error e, h => obtain ⟨_, _, _, _, _, _, _, _, _, _, _, _, q⟩ := h; exact q.elim
    | .ok .next, h => exact False.elim h
    | .ok .brk, h => exact False.elim h
    | .ok .cont, h => exact False.elim h
    | .ok (.ret u), h =>
      obtain ⟨v, H', os, bare, un, hok', r', q⟩ := h
      obtain rfl : v = .bl true := q
      obtain rfl : u = Value.bool true := r'
      refine ⟨rfl, OldK.of_keep fun b o e => ?_, os, bare⟩
      rcases hO b with q | ⟨ob, xs, q⟩
      · exact un.keep b o e q (fun y => nomatch y) (by simp)
      · obtain ⟨e1, _⟩ := hok b _ q
        obtain ⟨e2, _⟩ := hok' b _ (un.frzs b ob _ q)
        rw [e] at e1; cases e1; exact e2
  cases hk : K.lookup a with
  | some o =>
    have e := hK a o hk
    rw [hob] at e; cases e
    exact core (fun _ => none) (fun _ => .inl rfl) (.inr ⟨_, us.toArray, _, hk, rfl, rfl, rfl, by rw [List.size_toArray, hi.length]; exact hl, by simpa using rv⟩) (fun b u y => nomatch (show (none : Option HO) = some u from y)) (fun b y => absurd rfl y) fun y => absurd rfl y
  | none =>
    have at_ : ∀ {b : Addr} {u : HO}, (if b = a then some (HO.frz { cls := .type "list", data := .seq us.toArray } (.lst (ns.map V.int))) else none) = some u → b = a ∧ u = .frz { cls := .type "list", data := .seq us.toArray } (.lst (ns.map V.int)) := fun {b u} h => by
      by_cases hb : b = a
      · rw [if_pos hb] at h; cases h; exact ⟨hb, rfl⟩
      · rw [if_neg hb] at h; cases h
    refine core (fun b => if b = a then some (.frz { cls := .type "list", data := .seq us.toArray } (.lst (ns.map V.int))) else none) (fun b => ?_) (.inl ⟨_, if_pos rfl⟩) (fun b u y => ?_) (fun b y => ?_) fun _ => hk
    · by_cases hb : b = a
      · exact .inr ⟨_, _, if_pos hb⟩
      · exact .inl (if_neg hb)
    · obtain ⟨rfl, rfl⟩ := at_ y
      exact ⟨hob, by rw [List.length_map]; exact hl, us, _, rv, hob⟩
    · by_cases hb : b = a
      · exact hb
      · exact absurd (if_neg hb) y
theorem walkG {l : PySem.W.OpenLaw} {n k : Nat} {q : Program} {loose : List Str} {XP : (Str → Option Value) → Heap → Prop} {YP : World → Heap → Prop} {d : DefRec} {x : Str} {g : List D → Sto → Res D} (hn : l.most = some n) (hn2 : n ≤ sizeLine) (hdf : d.params.defaults = []) (hr : Room k callerA)
    (hg : ∀ ns : List Int, ns.length ≤ n → ∃ S, g [.scr ns] [] = .ok (.bl true) S)
    (F : ∀ (w : World) (mg : Str → Option Value) (fa : Addr) (h : Heap), YP w h → h.Ns mainGlobals mg → mg d.name = some (.ref fa) →
      ∃ (K : PySem.W.Frag) (fd : FuncData) (G : Glo), K.In h ∧ (∀ (s : Shared) (u : Value), BindsTo s fd ⟨[u], []⟩ [(x, u)]) ∧ ∀ base : Heap, K.In base → base.Ns mainGlobals mg → FnG l.prog w K mg base k fa fd [x] (spOf K G 1 g)) :
    PySem.W.WalkO q loose XP YP l.row.toRowW d [] (fun f vs => PySem.call f vs) := by
  refine Att.attach_call hn hdf fun w s₀ s₁ mg mb fa o pm cd doc a vs ns Gd Y ho hd hcd hmg hobj hints hlen hgen => ?_
  obtain ⟨K, fd, G, KX, hb, hF⟩ := F w mg fa _ Y Gd.T.g hmg
  exact lawG_call KX Gd.T.g Gd.T.b Gd.T.builtins Gd.T.nolimit hgen hobj hints (Nat.le_trans hlen hn2) hr hF hb (hg ns hlen)
/-! ### what is looked at behind the top -/
def frM (g : Addr → Option Obj) (n : Nat) : PySem.W.Frag := He.frG g (cStatics :: sysModules :: He.asD g n)
def obsM (n : Nat) (fa : List He.Fa) (fn : List He.DefD) (ex : PySem.W.Frag → Bool) (g : Addr → Option Obj) : He.AlD × Bool := (He.obsD fa fn (frM g n), ex (frM g n))
structure SaysM (fa : List He.Fa) (fn : List He.DefD) (ex : PySem.W.Frag → Bool) (K : PySem.W.Frag) : Prop where
  d : He.SaysD fa fn K
  more : ex K = true
def hookM (n : Nat) (fa : List He.Fa) (fn : List He.DefD) (ex : PySem.W.Frag → Bool) : PySem.W.Hook where
  α := He.AlD × Bool
  obs := fun s => obsM n fa fn ex s.heap.get?
  val := fun _ => (He.valD fn, true)
  says := fun _ h => ∃ K : PySem.W.Frag, K.In h ∧ SaysM fa fn ex K
  of := fun _ _ e => ⟨_, He.frG_in, congrArg Prod.fst e, congrArg Prod.snd e⟩
  keeps := fun _ _ _ ⟨K, hK, c⟩ k => ⟨K, PySem.W.Frag.In.keeps hK k, c⟩
theorem obsM_eq {n : Nat} {fa : List He.Fa} {fn : List He.DefD} {ex : PySem.W.Frag → Bool} {g : Addr → Option Obj} {s : Shared} (h : ∀ a, g a = s.heap.get? a) : obsM n fa fn ex g = (hookM n fa fn ex).obs s := by
  have e : g = s.heap.get? := funext h
  rw [e]; rfl
/-! ### own exceptions' classes, by Bools -/
def oexB (K : PySem.W.Frag) (C : Addr) : Bool := (match K.lookup C with
  | some ⟨.type "type", _, .cls cd, sl⟩ => (match cd.mro, sl.toList with
    | .ref C' :: bm, [_, _, _, _, some (.builtin n), _] => C' == C && n == "ValueError.__new__" && !cd.hasDel && cd.hasDict && PySem.HandSPX.refsVE bm
    | _, _ => false)
  | _ => false) && decide (PySem.W.findIn K (.ref C) "__setattr__" = some (some (.builtin "object.__setattr__"))) && decide (PySem.W.subIn K (.ref C) (.type "BaseException") = some true) && decide (PySem.W.typeIn K (.ref C) = some (.type "type")) && PySem.W.keepIn K (.ref C)
theorem oexB_ok {K : PySem.W.Frag} {C : Addr} (h : oexB K C = true) : OexC K C := by
  unfold oexB at h
  simp only [Bool.and_eq_true, decide_eq_true_eq] at h
  obtain ⟨⟨⟨⟨q, h1⟩, h2⟩, h3⟩, h4⟩ := h
  refine ⟨?_, h1, h2, h3, h4⟩
  split at q
  · rename_i dd cd sl ho
    split at q
    · rename_i C' bm k0 k1 k2 k3 n k5 hm hs
      simp only [Bool.and_eq_true, beq_iff_eq, Bool.not_eq_true'] at q
      obtain ⟨⟨⟨⟨rfl, rfl⟩, hdel⟩, hdc⟩, ht⟩ := q
      obtain ⟨nm, bs, mro, ns, qn, hd, sn, sub, ab, col, del⟩ := cd
      dsimp only at hm hdel hdc
      subst hm hdel hdc
      have hsl : sl = #[k0, k1, k2, k3, some (.builtin "ValueError.__new__"), k5] := by
        obtain ⟨l⟩ := sl
        simp only at hs
        rw [hs]
      subst hsl
      exact ⟨nm, qn, ns, bs, bm, sn, sub, ab, col, dd, k0, k1, k2, k3, k5, ho, ht⟩
    · cases q
  · cases q
/-- a class whose __init__ is its base's built-in one -/
def bseB (K : PySem.W.Frag) (B : Addr) : Bool := decide (PySem.W.specialIn K (.ref B) "__getattribute__" = some (some (.builtin "type.__getattribute__"))) && PySem.W.readsIn K B (.type "type") && (match PySem.W.findCls K (.ref B) (.type "type") "__init__" with
  | some (.val (.builtin n)) => n == "ValueError.__init__"
  | _ => false)
structure BseC (K : PySem.W.Frag) (B : Addr) : Prop where
  ga : PySem.W.specialIn K (.ref B) "__getattribute__" = some (some (.builtin "type.__getattribute__"))
  hr : PySem.W.readsIn K B (.type "type") = true
  hf : PySem.W.findCls K (.ref B) (.type "type") "__init__" = some (.val (.builtin "ValueError.__init__"))
theorem bseB_ok {K : PySem.W.Frag} {B : Addr} (h : bseB K B = true) : BseC K B := by
  unfold bseB at h
  simp only [Bool.and_eq_true, decide_eq_true_eq] at h
  obtain ⟨⟨h1, h2⟩, h3⟩ := h
  refine ⟨h1, h2, ?_⟩
  split at h3
  · rename_i n e
    rw [e, beq_iff_eq.mp h3]
  · cases h3
/-- an own exception: the class x, its field f -/
def excB (K : PySem.W.Frag) (x f : Str) : Bool := oexB K (He.ga K x) && xfB K (He.ga K x) && decide (PySem.W.findIn K (.ref (He.ga K x)) f = some none) && decide (PySem.W.findIn K (.ref (He.ga K x)) "__init__" = some (some (.ref (He.ma K (He.ga K x) "__init__")))) &&
  decide (PySem.W.typeIn K (.ref (He.ma K (He.ga K x) "__init__")) = some (.type "function"))
theorem xs_of {K : PySem.W.Frag} {x f : Str} (h : excB K x f = true) : OexC K (He.ga K x) ∧ PySem.W.findIn K (.ref (He.ga K x)) f = some none := by
  unfold excB at h
  simp only [Bool.and_eq_true, decide_eq_true_eq] at h
  exact ⟨oexB_ok h.1.1.1.1, h.1.1.2⟩
theorem excB_ok {P : Program} {w : World} {K : PySem.W.Frag} {mg : Str → Option Value} {base : Heap} {G : Glo} {c : Nat} {x f : Str} (h : excB K x f = true) (hm : mg x = some (.ref (He.ga K x))) (hc : G.ca c = He.ga K x) (hf : G.fld c = f)
    (hi : ∃ fd ps, FnOk P w K mg base (L2.CX P w) 2 (He.ma K (He.ga K x) "__init__") fd ps (spIni (He.ga K x) f) ∧ Binds K fd ps []) : OwnX P w K mg base G c x f := by
  unfold excB at h
  simp only [Bool.and_eq_true, decide_eq_true_eq] at h
  obtain ⟨⟨⟨⟨h1, h2⟩, h3⟩, h4⟩, h5⟩ := h
  obtain ⟨fd, ps, h6, h7⟩ := hi
  exact ⟨by rw [hc]; exact oexB_ok h1, by rw [hc]; exact xfB_ok h2, by rw [hc]; exact h3, hf, by rw [hc]; exact hm, ⟨_, fd, ps, by rw [hc]; exact h4, h5, by rw [hc]; exact h6, h7⟩⟩
end Mp

/-! Mp, part 14: rules with their small duties done. -/
namespace Mp
open PySem PySem.Spec L2
open PyProof.Rows hiding St
section
variable {X : Cx} {G : Glo} {W : WX} {o a b c e tg iter elt : Expr} {es ifs : List Expr} {eo ea eb ec te : Ev} {er : Sl → Sto → Res (List D)} {ta tb tc : EvB} {pos : Pos} {body : List Stmt} {eb' : EvS} {src : Src} {t : Tgt} {ws : List Nat}
theorem Q.var (i : Nat) {x : Str} (hN : X.N[i]? = some x := by rfl) (hv : Vis X.env.scope x := by first | exact .inl rfl | exact .inr (.inl rfl) | exact .inr (.inr rfl)) (hd : (x == ("__debug__" : Str)) = false := by decide) (hcd : (x == ("__classdict__" : Str)) = false := by decide) : SE X G W (.Name x pos) (cVar i) :=
  SE.var hN hv hd hcd
theorem Q.str (y : List Nat) {x : Str} {j : Nat} (hy : x = tx y := by rfl) : SE X G W (.Constant (.str x) j pos) (cC (.str y)) := SE.str y hy
theorem Q.globI {x : Str} {i : Int} (h : ∃ t, X.mg x = some (.int i t)) (hg : Gl X x := by rfl) (hd : (x == ("__debug__" : Str)) = false := by decide) : SE X G W (.Name x pos) (cC (.int i)) :=
  let ⟨t, e⟩ := h; SE.glob hg e (v := .int i) ⟨t, rfl⟩ (fun _ _ _ => .int i) hd
theorem Q.globS {x : Str} (y : List Nat) (h : ∃ t, X.mg x = some (.str (tx y) t)) (hg : Gl X x := by rfl) (hd : (x == ("__debug__" : Str)) = false := by decide) : SE X G W (.Name x pos) (cC (.str y)) :=
  let ⟨t, e⟩ := h; SE.glob hg e (v := .str (tx y)) ⟨t, rfl⟩ (fun _ _ _ => .str y) hd
theorem Q.set (i : Nat) {x : Str} {pos' : Pos} (hN : X.N.Nodup) (he : SE X G W a ea) (hi : X.N[i]? = some x := by rfl) (hx : Loc X.env.scope x := by first | exact .inl rfl | exact .inr rfl) (hs : swapsWith a (some (.Name x pos')) pos.line X.env = pure false := by rfl) (hf : X.fn x = true ∨ X.env.scope.names.lookup x = some .local := by first | exact .inl rfl | exact .inr rfl) :
    SS X G W (.Assign [.Name x pos'] a pos) (sSet i ea) := SS.set hN hi hx he hs hf
theorem Q.aug (i : Nat) {x : Str} {op : Operator} {g : Sto → D → D → Option D} {pos' : Pos} (hN : X.N.Nodup) (ho : OpR X (inplaceOp op) (rD X.K g)) (he : SE X G W a ea) (hi : X.N[i]? = some x := by rfl) (hx : Loc X.env.scope x := by first | exact .inl rfl | exact .inr rfl) (hf : X.fn x = true ∨ X.env.scope.names.lookup x = some .local := by first | exact .inl rfl | exact .inr rfl) :
    SS X G W (.AugAssign (.Name x pos') op a pos) (sAug i g ea) := SS.aug hN hi hx he ho hf
theorem Q.name (i : Nat) {x : Str} (hN : X.N.Nodup) (hi : X.N[i]? = some x := by rfl) (hx : Loc X.env.scope x := by first | exact .inl rfl | exact .inr rfl) (hf : X.fn x = true ∨ X.env.scope.names.lookup x = some .local := by first | exact .inl rfl | exact .inr rfl) : SG X G (.Name x pos) [i] (tNm i) :=
  SG.name hN hi hx hf
theorem Q.len {p : Pos} (hm : X.mg "len" = none) (ha : SA X G W [a] er) (hg : Gl X "len" := by rfl) (he : starEach [a] X.env = (false, eval a X.env) :: starEach [] X.env := by rfl) (hpl : (backTo pos (starEach [] X.env)).any (·.1) = false := by rfl) : SE X G W (.Call (.Name "len" p) [a] [] pos) (cB gLen er) :=
  SE.blt cr_len hg hm (by decide +kernel) ha (by decide) (by decide) he hpl
theorem Q.blt {id : String} {g : Sto → List D → Option (D × Sto)} {x : Str} {p : Pos} (hc : CallR X (.builtin id) (rC X.K g)) (hm : X.mg x = none) (ha : SA X G W (a :: es) er) (hg : Gl X x := by rfl) (hv : bootBuiltins x = some (.builtin id) := by decide +kernel) (hn : x ≠ "__name__" := by decide) (hdb : (x == ("__debug__" : Str)) = false := by decide)
    (he : starEach (a :: es) X.env = (false, eval a X.env) :: starEach es X.env := by rfl) (hpl : (backTo pos (starEach es X.env)).any (·.1) = false := by rfl) : SE X G W (.Call (.Name x p) (a :: es) [] pos) (cB g er) := SE.blt hc hg hm hv ha hn hdb he hpl
theorem Q.ty {T : String} {g : Sto → List D → Option (D × Sto)} {x : Str} {p : Pos} (hc : CallR X (.type T) (rC X.K g)) (hm : X.mg x = none) (ha : SA X G W (a :: es) er) (hg : Gl X x := by rfl) (hv : bootBuiltins x = some (.type T) := by decide +kernel) (hn : x ≠ "__name__" := by decide) (hdb : (x == ("__debug__" : Str)) = false := by decide)
    (he : starEach (a :: es) X.env = (false, eval a X.env) :: starEach es X.env := by rfl) (hpl : (backTo pos (starEach es X.env)).any (·.1) = false := by rfl) : SE X G W (.Call (.Name x p) (a :: es) [] pos) (cB g er) := SE.ty hc hg hm hv ha hn hdb he hpl
theorem Q.tyF {T : String} {g : Sto → List D → Option (List D)} {x : Str} {p : Pos} (hc : CallR X (.type T) (rF X.K g)) (hm : X.mg x = none) (ha : SA X G W (a :: es) er) (hg : Gl X x := by rfl) (hv : bootBuiltins x = some (.type T) := by decide +kernel) (hn : x ≠ "__name__" := by decide) (hdb : (x == ("__debug__" : Str)) = false := by decide)
    (he : starEach (a :: es) X.env = (false, eval a X.env) :: starEach es X.env := by rfl) (hpl : (backTo pos (starEach es X.env)).any (·.1) = false := by rfl) : SF X G W (.Call (.Name x p) (a :: es) [] pos) (cBF g er) := SF.ty hc hg hm hv ha hn hdb he hpl
theorem Q.isi (T : Ty) {x : Str} {p p2 : Pos} (hm : X.mg "isinstance" = none) (hmx : X.mg x = none) (ha : SE X G W a ea) (hT : T ≠ .non := by decide) (hg : Gl X "isinstance" := by rfl) (hx : Gl X x := by rfl) (hbx : bootBuiltins x = some (.type T.nm) := by decide +kernel) (hn : x ≠ "__name__" := by decide)
    (hd : (x == ("__debug__" : Str)) = false := by decide) (he : starEach [a, .Name x p2] X.env = (false, eval a X.env) :: starEach [.Name x p2] X.env := by rfl) (he2 : starEach [.Name x p2] X.env = (false, eval (.Name x p2) X.env) :: starEach [] X.env := by rfl) (hpl : (backTo pos (starEach [.Name x p2] X.env)).any (·.1) = false := by rfl) :
    SE X G W (.Call (.Name "isinstance" p) [a, .Name x p2] [] pos) (cUn (gIsi T) ea) := SE.isi hT hg hm hx hmx hbx ha hn hd he he2 hpl
theorem Q.rng1 {p : Pos} (hm : X.mg "range" = none) (ha : SE X G W a ea) (hg : Gl X "range" := by rfl) (hs : starEach [a] X.env = [(false, eval a X.env)] := by rfl) : SI X G W tg (.Call (.Name "range" p) [a] [] pos) (iRng1' ea) := SI.rng1 hg hm ha hs
theorem Q.rng2 {p : Pos} (hm : X.mg "range" = none) (ha : SE X G W a ea) (hb : SE X G W b eb) (hg : Gl X "range" := by rfl) (hs : starEach [a, b] X.env = [(false, eval a X.env), (false, eval b X.env)] := by rfl) (hs1 : starEach [a, b] X.env = (false, eval a X.env) :: starEach [b] X.env := by rfl) (hs2 : starEach [b] X.env = [(false, eval b X.env)] := by rfl) :
    SI X G W tg (.Call (.Name "range" p) [a, b] [] pos) (iRng2' ea eb) := SI.rng2 hg hm ha hb hs hs1 hs2
theorem Q.raise {k c : Nat} {x f : Str} {p : Pos} (R : OwnX X.prog X.w X.K X.mg X.base G c x f) (hc : X.calm = true) (tk : Takes X W) (hr : Room k X.A) (ha : SE X G W a ea) (hk : 3 ≤ k := by decide) (hg : Gl X x := by rfl) (hdb : (x == ("__debug__" : Str)) = false := by decide)
    (h1 : starEach [a] X.env = (false, eval a X.env) :: starEach [] X.env := by rfl) (hpl : (backTo pos (starEach [] X.env)).any (·.1) = false := by rfl) {pos2 : Pos} :
    SS X G W (.Raise (some (.Call (.Name x p) [a] [] pos)) none pos2) (sRaise c ea) := SS.raise R hc tk (hr.mono hk) hg ha hdb h1 hpl
end
/-! ### f-strings -/
def gFmt (_ : Sto) (d : D) : Option D := match d with
  | .str x => if x.length ≤ 1000000 then some (.str x) else none
  | .int i => if i.natAbs.log2 < 1920 then some (.str (decL i)) else none
  | _ => none
def jL : List Ev → List Nat → Ev
  | [], acc => fun _ S => .ok (.str acc) S
  | e :: es, acc => fun δ S => (e δ S).bind fun d S1 => match d with
    | .str y => if acc.length + y.length ≤ 1000000 then jL es (acc ++ y) δ S1 else .bad
    | _ => .bad
section
variable {X : Cx} {G : Glo} {W : WX} {a b c e v1 v2 : Expr} {es rest : List Expr} {eo ea eb ec te : Ev} {evs : List Ev} {pos : Pos}
theorem SE.fmt (ha : SE X G W a ea) : SE X G W (.FormattedValue a (-1) none pos) (cUn gFmt ea) :=
  (pe_fmt ha).conseq fun σ H Q ⟨ρ, O, δ, S, A, h⟩ => Post.run A h fun d S1 ρ1 v H1 h1 s1 A1 r1 => by
    unfold gFmt at h1
    split at h1
    · rename_i z hz
      split at hz
      · split at hz
        · cases hz; cases r1
          rename_i hl
          exact .inl ⟨_, rfl, by rw [tx_len]; exact LIM_le hl, h1 ρ1 _ H1 s1 A1 (.str _)⟩
        · cases hz
      · split at hz
        · cases hz; cases r1
          rename_i hl
          refine .inr ⟨_, rfl, hl, ?_⟩
          have q := h1 ρ1 (.str (tx (decL _))) H1 s1 A1 (.str _)
          rw [← dec_tx] at q
          exact q
        · cases hz
      · cases hz
    · exact h1.elim
theorem js_post {K : PySem.W.Frag} {Q : VK} {ρ0 O : List Addr} {σ : St} {H0 : Hp} {δ : Sl} : ∀ (evs : List Ev) (acc : List Nat) (ρ : List Addr) (H : Hp) (S : Sto), Stp ρ0 H0 ρ H → RelA K G ρ O σ H δ S → (jL evs acc δ S).To (PV K G ρ0 O σ H0 δ Q) (PX K G W ρ0 O σ H0 δ) →
    tJs (evs.map (Post K G W)) (tx acc) σ H fun out H1 => Q (.str out) H1
  | [], acc, ρ, H, S, s, A, h => h ρ _ H s A (.str acc)
  | e :: evs, acc, ρ, H, S, s, A, h => by
    have h' : ((e δ S).bind fun d S1 => match d with | .str y => if acc.length + y.length ≤ 1000000 then jL evs (acc ++ y) δ S1 else .bad | _ => .bad).To (PV K G ρ0 O σ H0 δ Q) (PX K G W ρ0 O σ H0 δ) := h
    refine ⟨ρ, O, δ, S, A, (Res.To.bind h').imp (fun d S1 hh ρ1 v H1 s1 A1 r1 => ?_) fun _ _ x => PX.mono x s⟩
    split at hh
    · split at hh
      · rename_i y hl
        cases r1
        refine ⟨_, rfl, by rw [tx_app, tx_len, List.length_append]; exact LIM_le hl, ?_⟩
        rw [tx_app]
        exact js_post evs (acc ++ y) ρ1 H1 S1 (s.trans s1) A1 hh
      · exact hh.elim
    · exact hh.elim
abbrev SJ (X : Cx) (G : Glo) (W : WX) (es : List Expr) (evs : List Ev) : Prop := PJ X es (evs.map (Post X.K G W))
theorem SJ.nil : SJ X G W [] [] := PJ.nil
theorem SJ.cons (h : SE X G W e ea) (r : SJ X G W es evs) : SJ X G W (e :: es) (ea :: evs) := PJ.cons h r
theorem SE.fstr (h : SJ X G W (v1 :: v2 :: rest) evs) : SE X G W (.JoinedStr (v1 :: v2 :: rest) pos) (jL evs []) :=
  (pe_joined h).conseq fun σ H Q ⟨ρ, O, δ, S, A, h⟩ => js_post evs [] ρ H S (.refl _ _) A h
/-! ### a module's tuple -/
theorem Q.globT {x : Str} (vs : List V) (ds : List D) (h : ∃ a, X.mg x = some (.ref a) ∧ ∀ H, SqT X.K H a vs) (hp : Paired RepC vs ds) (hg : Gl X x := by rfl) (hd : (x == ("__debug__" : Str)) = false := by decide) : SE X G W (.Name x pos) (cC (.tup ds)) :=
  let ⟨a, e, q⟩ := h; SE.glob hg e (v := .ref a) rfl (fun _ _ H => .tupL (q H) (RepC.reps hp)) hd
end
/-! ### a comprehension's own scope -/
def blkB (N : List Str) (sc scope : Scope) (own : List (Str × Nat)) : Bool :=
  decide (scope.kind = .function) && (scope.names.all fun y => decide (scope.names.lookup y.1 = some y.2) && ((match y.2 with
    | .free => decide (sc.names.lookup y.1 = some .cell) || decide (sc.names.lookup y.1 = some .free)
    | .local => (own.map (·.1)).contains y.1 || !N.contains y.1
    | .cell => (own.map (·.1)).contains y.1 || !N.contains y.1
    | _ => true))) && own.all fun p => decide (N[p.2]? = some p.1)
theorem blk_of {N : List Str} {sc scope : Scope} {own : List (Str × Nat)} (h : blkB N sc scope own = true) : BlkOk N sc scope own := by
  unfold blkB at h
  simp only [Bool.and_eq_true, decide_eq_true_eq, List.all_eq_true] at h
  obtain ⟨⟨h1, h2⟩, h3⟩ := h
  refine ⟨h1, fun y hy => (h2 y hy).1, fun p hp => h3 p hp, fun y hy e => ?_, fun y hy e => ?_⟩
  · have := (h2 y hy).2
    rw [e] at this
    simpa using this
  · have := (h2 y hy).2
    rcases e with e | e <;> · rw [e] at this; simpa using this
end Mp

/-! Mp, part 15: what the words compute, step by step for simp: a word unfolds only where it is asked, what follows waits unasked. -/
namespace Mp
open PySem PySem.Spec L2
open PyProof.Rows hiding St
variable {δ δ1 : Sl} {S S1 S2 : Sto} {x : Exn} {d e : D} {ds : List D} {g g' : Sto → D → D → Option D} {g1' : Sto → D → Option D} {a b c : Ev} {er r' : Sl → Sto → Res (List D)} {t u : EvB} {s s' : EvS} {i j : Nat} {p : Prop} [Decidable p]
abbrev EA := Sl → Sto → Res (List D)
def ofO (o : Option D) (S : Sto) : Res D := match o with | some d => .ok d S | none => .bad
@[simp] theorem ofO_some : ofO (some d) S = .ok d S := (rfl)
@[simp] theorem ofO_none : ofO none S = .bad := (rfl)
@[simp] theorem ofO_ite {o o2 : Option D} : ofO (if p then o else o2) S = if p then ofO o S else ofO o2 S := by split <;> rfl
def ofS (o : Option (Option D)) (S : Sto) : Res D := match o with | some (some d) => .ok d S | _ => .bad
@[simp] theorem ofS_some : ofS (some (some d)) S = .ok d S := (rfl)
@[simp] theorem cVar_ap : cVar i δ S = ofS δ[i]? S := by unfold cVar ofS; rfl
@[simp] theorem cC_ap : cC d δ S = .ok d S := (rfl)
def bin3 (g : Sto → D → D → Option D) (d : D) (r : Res D) : Res D := match r with | .ok e S => ofO (g S d e) S | .exc x S => .exc x S | .bad => .bad
@[simp] theorem bin3_ok : bin3 g d (.ok e S1) = ofO (g S1 d e) S1 := (rfl)
@[simp] theorem bin3_exc : bin3 g d (.exc x S1) = .exc x S1 := (rfl)
@[simp] theorem bin3_bad : bin3 g d .bad = .bad := (rfl)
def bin2 (g : Sto → D → D → Option D) (b : Ev) (δ : Sl) (r : Res D) : Res D := match r with | .ok d S => bin3 g d (b δ S) | .exc x S => .exc x S | .bad => .bad
@[simp] theorem bin2_ok : bin2 g b δ (.ok d S1) = bin3 g d (b δ S1) := (rfl)
@[simp] theorem bin2_exc : bin2 g b δ (.exc x S1) = .exc x S1 := (rfl)
@[simp] theorem bin2_bad : bin2 g b δ .bad = .bad := (rfl)
@[simp] theorem cBin_ap : cBin g a b δ S = bin2 g b δ (a δ S) := by
  unfold cBin bin2
  cases a δ S with
  | ok d S1 => show (b δ S1).bind _ = bin3 g d (b δ S1); unfold bin3; cases b δ S1 <;> rfl
  | exc _ _ => rfl
  | bad => rfl
def un2 (g : Sto → D → Option D) (r : Res D) : Res D := match r with | .ok d S => ofO (g S d) S | .exc x S => .exc x S | .bad => .bad
@[simp] theorem un2_ok : un2 g1' (.ok d S1) = ofO (g1' S1 d) S1 := (rfl)
@[simp] theorem un2_exc : un2 g1' (.exc x S1) = .exc x S1 := (rfl)
@[simp] theorem un2_bad : un2 g1' .bad = .bad := (rfl)
@[simp] theorem cUn_ap : cUn g1' a δ S = un2 g1' (a δ S) := by unfold cUn un2; cases a δ S <;> rfl
@[simp] theorem cNil_ap : cNil δ S = .ok [] S := (rfl)
def cons3 (d : D) (r : Res (List D)) : Res (List D) := match r with | .ok ds S => .ok (d :: ds) S | .exc x S => .exc x S | .bad => .bad
@[simp] theorem cons3_ok : cons3 d (.ok ds S1) = .ok (d :: ds) S1 := (rfl)
@[simp] theorem cons3_exc : cons3 d (.exc x S1) = .exc x S1 := (rfl)
@[simp] theorem cons3_bad : cons3 d .bad = .bad := (rfl)
def cons2 (r0 : EA) (δ : Sl) (r : Res D) : Res (List D) := match r with | .ok d S => cons3 d (r0 δ S) | .exc x S => .exc x S | .bad => .bad
@[simp] theorem cons2_ok : cons2 er δ (.ok d S1) = cons3 d (er δ S1) := (rfl)
@[simp] theorem cons2_exc : cons2 er δ (.exc x S1) = .exc x S1 := (rfl)
@[simp] theorem cons2_bad : cons2 er δ .bad = .bad := (rfl)
@[simp] theorem cCons_ap : cCons a er δ S = cons2 er δ (a δ S) := by
  unfold cCons cons2
  cases a δ S with
  | ok d S1 => show (er δ S1).bind _ = cons3 d (er δ S1); unfold cons3; cases er δ S1 <;> rfl
  | exc _ _ => rfl
  | bad => rfl
def tup2 (r : Res (List D)) : Res (D) := match r with | .ok ds S1 => if ds.length ≤ 1000 then .ok (.tup ds) S1 else .bad | .exc x S => .exc x S | .bad => .bad
@[simp] theorem tup2_ok : tup2  (.ok ds S1) = if ds.length ≤ 1000 then .ok (.tup ds) S1 else .bad := (rfl)
@[simp] theorem tup2_exc : tup2  (.exc x S1) = .exc x S1 := (rfl)
@[simp] theorem tup2_bad : tup2  .bad = .bad := (rfl)
@[simp] theorem cTup_ap : cTup er δ S = tup2 (er δ S) := by unfold cTup tup2; cases er δ S <;> rfl
def lst2 (r : Res (List D)) : Res (List D) := match r with | .ok ds S1 => if ds.length ≤ 1000 then .ok ds S1 else .bad | .exc x S => .exc x S | .bad => .bad
@[simp] theorem lst2_ok : lst2  (.ok ds S1) = if ds.length ≤ 1000 then .ok ds S1 else .bad := (rfl)
@[simp] theorem lst2_exc : lst2  (.exc x S1) = .exc x S1 := (rfl)
@[simp] theorem lst2_bad : lst2  .bad = .bad := (rfl)
@[simp] theorem cLstF_ap : cLstF er δ S = lst2 (er δ S) := by unfold cLstF lst2; cases er δ S <;> rfl
def inl2 (r : Res (List D)) : Res (D) := match r with | .ok ds S1 => .ok (.lst ds) S1 | .exc x S => .exc x S | .bad => .bad
@[simp] theorem inl2_ok : inl2  (.ok ds S1) = .ok (.lst ds) S1 := (rfl)
@[simp] theorem inl2_exc : inl2  (.exc x S1) = .exc x S1 := (rfl)
@[simp] theorem inl2_bad : inl2  .bad = .bad := (rfl)
@[simp] theorem cInl_ap : cInl er δ S = inl2 (er δ S) := by unfold cInl inl2; cases er δ S <;> rfl
def new2 (r : Res (List D)) : Res (D) := match r with | .ok ds S1 => .ok (.loc S1.length) (S1 ++ [.lst ds]) | .exc x S => .exc x S | .bad => .bad
@[simp] theorem new2_ok : new2  (.ok ds S1) = .ok (.loc S1.length) (S1 ++ [.lst ds]) := (rfl)
@[simp] theorem new2_exc : new2  (.exc x S1) = .exc x S1 := (rfl)
@[simp] theorem new2_bad : new2  .bad = .bad := (rfl)
@[simp] theorem cNew_ap : cNew er δ S = new2 (er δ S) := by unfold cNew new2; cases er δ S <;> rfl
def ofB (o : Option Bool) (S : Sto) : Res Bool := match o with | some d => .ok d S | none => .bad
@[simp] theorem ofB_some {k : Bool} : ofB (some k) S = .ok k S := (rfl)
@[simp] theorem ofB_none : ofB none S = .bad := (rfl)
def tb2 (r : Res D) : Res Bool := match r with | .ok d S1 => ofB (isB d) S1 | .exc x S => .exc x S | .bad => .bad
@[simp] theorem tb2_ok : tb2  (.ok d S1) = ofB (isB d) S1 := (rfl)
@[simp] theorem tb2_exc : tb2  (.exc x S1) = .exc x S1 := (rfl)
@[simp] theorem tb2_bad : tb2  .bad = .bad := (rfl)
@[simp] theorem tB1_ap : tB1 a δ S = tb2 (a δ S) := by unfold tB1 tb2; cases a δ S <;> rfl
def tr2 (r : Res D) : Res Bool := match r with | .ok d S1 => ofB (truth S1 d) S1 | .exc x S => .exc x S | .bad => .bad
@[simp] theorem tr2_ok : tr2  (.ok d S1) = ofB (truth S1 d) S1 := (rfl)
@[simp] theorem tr2_exc : tr2  (.exc x S1) = .exc x S1 := (rfl)
@[simp] theorem tr2_bad : tr2  .bad = .bad := (rfl)
@[simp] theorem tTr_ap : tTr a δ S = tr2 (a δ S) := by unfold tTr tr2; cases a δ S <;> rfl
def tand2 (u : EvB) (δ : Sl) (r : Res Bool) : Res Bool := match r with | .ok k S1 => if k = true then u δ S1 else .ok false S1 | .exc x S => .exc x S | .bad => .bad
@[simp] theorem tand2_ok {k : Bool} : tand2 u δ (.ok k S1) = if k = true then u δ S1 else .ok false S1 := (rfl)
@[simp] theorem tand2_exc : tand2 u δ (.exc x S1) = .exc x S1 := (rfl)
@[simp] theorem tand2_bad : tand2 u δ .bad = .bad := (rfl)
@[simp] theorem tAndB_ap : tAndB t u δ S = tand2 u δ (t δ S) := by unfold tAndB tand2; cases t δ S <;> rfl
def tor2 (u : EvB) (δ : Sl) (r : Res Bool) : Res Bool := match r with | .ok k S1 => if k = true then .ok true S1 else u δ S1 | .exc x S => .exc x S | .bad => .bad
@[simp] theorem tor2_ok {k : Bool} : tor2 u δ (.ok k S1) = if k = true then .ok true S1 else u δ S1 := (rfl)
@[simp] theorem tor2_exc : tor2 u δ (.exc x S1) = .exc x S1 := (rfl)
@[simp] theorem tor2_bad : tor2 u δ .bad = .bad := (rfl)
@[simp] theorem tOrB_ap : tOrB t u δ S = tor2 u δ (t δ S) := by unfold tOrB tor2; cases t δ S <;> rfl
def tnot2 (r : Res Bool) : Res Bool := match r with | .ok k S1 => .ok (!k) S1 | .exc x S => .exc x S | .bad => .bad
@[simp] theorem tnot2_ok {k : Bool} : tnot2 (.ok k S1) = .ok (!k) S1 := (rfl)
@[simp] theorem tnot2_exc : tnot2  (.exc x S1) = .exc x S1 := (rfl)
@[simp] theorem tnot2_bad : tnot2  .bad = .bad := (rfl)
@[simp] theorem tNotB_ap : tNotB t δ S = tnot2 (t δ S) := by unfold tNotB tnot2; cases t δ S <;> rfl
@[simp] theorem tTrue_ap : tTrue δ S = .ok true S := (rfl)
def cand2 (b : Ev) (δ : Sl) (r : Res D) : Res D := match r with | .ok d S1 => (match isB d with | some true => b δ S1 | some false => .ok (.bl false) S1 | none => .bad) | .exc x S => .exc x S | .bad => .bad
@[simp] theorem cand2_ok {k : Bool} : cand2 b δ (.ok (.bl k) S1) = if k = true then b δ S1 else .ok (.bl false) S1 := by cases k <;> rfl
@[simp] theorem cand2_exc : cand2 b δ (.exc x S1) = .exc x S1 := (rfl)
@[simp] theorem cand2_bad : cand2 b δ .bad = .bad := (rfl)
@[simp] theorem cAnd_ap : cAnd a b δ S = cand2 b δ (a δ S) := by unfold cAnd cand2; cases a δ S with
  | ok d S1 => first
    | rfl
    | (unfold Res.bind; dsimp only; generalize isB d = q; rcases q with _ | _ | _ <;> rfl)
  | exc _ _ => rfl
  | bad => rfl
def cor2 (b : Ev) (δ : Sl) (r : Res D) : Res D := match r with | .ok d S1 => (match isB d with | some true => .ok (.bl true) S1 | some false => b δ S1 | none => .bad) | .exc x S => .exc x S | .bad => .bad
@[simp] theorem cor2_ok {k : Bool} : cor2 b δ (.ok (.bl k) S1) = if k = true then .ok (.bl true) S1 else b δ S1 := by cases k <;> rfl
@[simp] theorem cor2_exc : cor2 b δ (.exc x S1) = .exc x S1 := (rfl)
@[simp] theorem cor2_bad : cor2 b δ .bad = .bad := (rfl)
@[simp] theorem cOr_ap : cOr a b δ S = cor2 b δ (a δ S) := by unfold cOr cor2; cases a δ S with
  | ok d S1 => first
    | rfl
    | (unfold Res.bind; dsimp only; generalize isB d = q; rcases q with _ | _ | _ <;> rfl)
  | exc _ _ => rfl
  | bad => rfl
def not2 (r : Res D) : Res D := match r with | .ok d S1 => (match isB d with | some k => .ok (.bl (!k)) S1 | none => .bad) | .exc x S => .exc x S | .bad => .bad
@[simp] theorem not2_ok {k : Bool} : not2 (.ok (.bl k) S1) = .ok (.bl (!k)) S1 := (rfl)
@[simp] theorem not2_exc : not2  (.exc x S1) = .exc x S1 := (rfl)
@[simp] theorem not2_bad : not2  .bad = .bad := (rfl)
@[simp] theorem cNot_ap : cNot a δ S = not2 (a δ S) := by unfold cNot not2; cases a δ S <;> rfl
def ite2 (a b : Ev) (δ : Sl) (r : Res Bool) : Res D := match r with | .ok k S1 => if k = true then a δ S1 else b δ S1 | .exc x S => .exc x S | .bad => .bad
@[simp] theorem ite2_ok {k : Bool} : ite2 a b δ (.ok k S1) = if k = true then a δ S1 else b δ S1 := (rfl)
@[simp] theorem ite2_exc : ite2 a b δ (.exc x S1) = .exc x S1 := (rfl)
@[simp] theorem ite2_bad : ite2 a b δ .bad = .bad := (rfl)
@[simp] theorem cIf_ap : cIf t a b δ S = ite2 a b δ (t δ S) := by unfold cIf ite2; cases t δ S <;> rfl
def ch4 (g' : Sto → D → D → Option D) (e : D) (r : Res D) : Res D := bin3 g' e r
@[simp] theorem ch4_eq {r : Res D} : ch4 g' e r = bin3 g' e r := (rfl)
def ch3 (g g' : Sto → D → D → Option D) (c : Ev) (δ : Sl) (d : D) (r : Res D) : Res D := match r with | .ok e S1 => (match (g S1 d e).bind isB with | some true => ch4 g' e (c δ S1) | some false => .ok (.bl false) S1 | none => .bad) | .exc x S => .exc x S | .bad => .bad
theorem ch3_ok {k : Bool} (h : g S1 d e = some (.bl k)) : ch3 g g' c δ d (.ok e S1) = if k = true then bin3 g' e (c δ S1) else .ok (.bl false) S1 := by unfold ch3; simp only [h]; cases k <;> rfl
@[simp] theorem ch3_exc : ch3 g g' c δ d (.exc x S1) = .exc x S1 := (rfl)
@[simp] theorem ch3_bad : ch3 g g' c δ d .bad = .bad := (rfl)
@[simp] theorem ch3_cmp {q : Int → Int → Bool} {q2 : List Nat → List Nat → Bool} {m n : Int} : ch3 (gCmp q q2) g' c δ (.int m) (.ok (.int n) S1) = if q m n = true then bin3 g' (.int n) (c δ S1) else .ok (.bl false) S1 := ch3_ok rfl
def ch2 (g g' : Sto → D → D → Option D) (b c : Ev) (δ : Sl) (r : Res D) : Res D := match r with | .ok d S1 => ch3 g g' c δ d (b δ S1) | .exc x S => .exc x S | .bad => .bad
@[simp] theorem ch2_ok : ch2 g g' b c δ (.ok d S1) = ch3 g g' c δ d (b δ S1) := (rfl)
@[simp] theorem ch2_exc : ch2 g g' b c δ (.exc x S1) = .exc x S1 := (rfl)
@[simp] theorem ch2_bad : ch2 g g' b c δ .bad = .bad := (rfl)
@[simp] theorem cChain_ap : cChain g g' a b c δ S = ch2 g g' b c δ (a δ S) := by
  unfold cChain ch2
  cases a δ S with
  | ok d S1 =>
    dsimp only
    unfold ch3
    cases e1 : b δ S1 with
    | ok e S2 =>
      rw [Res.bind_ok, e1, Res.bind_ok]
      dsimp only
      generalize (g S2 d e).bind isB = q
      cases q with
      | none => rfl
      | some k => cases k with
        | true => show (c δ S2).bind _ = bin3 g' e (c δ S2); unfold bin3; cases c δ S2 <;> rfl
        | false => rfl
    | exc _ _ => rw [Res.bind_ok, e1]; rfl
    | bad => rw [Res.bind_ok, e1]; rfl
  | exc _ _ => rfl
  | bad => rfl
def call2 (n : Nat) (f : List D → Sto → Res D) (r : Res (List D)) : Res D := match r with | .ok ds S1 => if ds.length = n then f ds S1 else .bad | .exc x S => .exc x S | .bad => .bad
@[simp] theorem call2_ok {n : Nat} {f : List D → Sto → Res D} : call2 n f (.ok ds S1) = if ds.length = n then f ds S1 else .bad := (rfl)
@[simp] theorem call2_exc {n : Nat} {f : List D → Sto → Res D} : call2 n f (.exc x S1) = .exc x S1 := (rfl)
@[simp] theorem call2_bad {n : Nat} {f : List D → Sto → Res D} : call2 n f .bad = .bad := (rfl)
@[simp] theorem cCall_ap {n : Nat} {f : List D → Sto → Res D} : cCall n f er δ S = call2 n f (er δ S) := by unfold cCall call2; cases er δ S <;> rfl
@[simp] theorem cCall0_ap {f : List D → Sto → Res D} : cCall0 f δ S = f [] S := (rfl)
def ofP (o : Option (D × Sto)) : Res D := match o with | some q => .ok q.1 q.2 | none => .bad
@[simp] theorem ofP_some {q : D × Sto} : ofP (some q) = .ok q.1 q.2 := (rfl)
@[simp] theorem ofP_none : ofP none = .bad := (rfl)
def b2 (g : Sto → List D → Option (D × Sto)) (r : Res (List D)) : Res D := match r with | .ok ds S1 => ofP (g S1 ds) | .exc x S => .exc x S | .bad => .bad
@[simp] theorem b2_ok {gb : Sto → List D → Option (D × Sto)} : b2 gb (.ok ds S1) = ofP (gb S1 ds) := (rfl)
@[simp] theorem b2_exc {gb : Sto → List D → Option (D × Sto)} : b2 gb (.exc x S1) = .exc x S1 := (rfl)
@[simp] theorem b2_bad {gb : Sto → List D → Option (D × Sto)} : b2 gb .bad = .bad := (rfl)
@[simp] theorem cB_ap {gb : Sto → List D → Option (D × Sto)} : cB gb er δ S = b2 gb (er δ S) := by unfold cB b2; cases er δ S with
  | ok ds S1 => show (match gb S1 ds with | some (d, S2) => (Res.ok d S2 : Res D) | none => .bad) = ofP (gb S1 ds); cases gb S1 ds <;> rfl
  | exc _ _ => rfl
  | bad => rfl
def ofF (o : Option (List D)) (S : Sto) : Res (List D) := match o with | some q => .ok q S | none => .bad
@[simp] theorem ofF_some : ofF (some ds) S = .ok ds S := (rfl)
@[simp] theorem ofF_none : ofF none S = .bad := (rfl)
def bf2 (g : Sto → List D → Option (List D)) (r : Res (List D)) : Res (List D) := match r with | .ok ds S1 => ofF (g S1 ds) S1 | .exc x S => .exc x S | .bad => .bad
@[simp] theorem bf2_ok {gf : Sto → List D → Option (List D)} : bf2 gf (.ok ds S1) = ofF (gf S1 ds) S1 := (rfl)
@[simp] theorem bf2_exc {gf : Sto → List D → Option (List D)} : bf2 gf (.exc x S1) = .exc x S1 := (rfl)
@[simp] theorem bf2_bad {gf : Sto → List D → Option (List D)} : bf2 gf .bad = .bad := (rfl)
@[simp] theorem cBF_ap {gf : Sto → List D → Option (List D)} : cBF gf er δ S = bf2 gf (er δ S) := by unfold cBF bf2; cases er δ S with
  | ok ds S1 => show (match gf S1 ds with | some zs => (Res.ok zs S1 : Res (List D)) | none => .bad) = ofF (gf S1 ds) S1; cases gf S1 ds <;> rfl
  | exc _ _ => rfl
  | bad => rfl
def m3M (g : Sto → D → List D → Option (D × Sto)) (d : D) (r : Res (List D)) : Res (D) := match r with | .ok ds S1 => ofP (g S1 d ds) | .exc x S => .exc x S | .bad => .bad
@[simp] theorem m3M_ok {gm : Sto → D → List D → Option (D × Sto)} : m3M gm d (.ok ds S1) = ofP (gm S1 d ds) := (rfl)
@[simp] theorem m3M_exc {gm : Sto → D → List D → Option (D × Sto)} : m3M gm d (.exc x S1) = .exc x S1 := (rfl)
@[simp] theorem m3M_bad {gm : Sto → D → List D → Option (D × Sto)} : m3M gm d .bad = .bad := (rfl)
def m2M (T : String) (g : Sto → D → List D → Option (D × Sto)) (r0 : EA) (δ : Sl) (r : Res D) : Res (D) := match r with | .ok d S1 => if isTy T S1 d = true then m3M g d (r0 δ S1) else .bad | .exc x S => .exc x S | .bad => .bad
@[simp] theorem m2M_ok {gm : Sto → D → List D → Option (D × Sto)} {T : String} : m2M T gm er δ (.ok d S1) = if isTy T S1 d = true then m3M gm d (er δ S1) else .bad := (rfl)
@[simp] theorem m2M_exc {gm : Sto → D → List D → Option (D × Sto)} {T : String} : m2M T gm er δ (.exc x S1) = .exc x S1 := (rfl)
@[simp] theorem m2M_bad {gm : Sto → D → List D → Option (D × Sto)} {T : String} : m2M T gm er δ .bad = .bad := (rfl)
@[simp] theorem cM_ap {gm : Sto → D → List D → Option (D × Sto)} {T : String} : cM T gm a er δ S = m2M T gm er δ (a δ S) := by
  unfold cM m2M
  cases a δ S with
  | ok d S1 =>
    show (if isTy T S1 d = true then (er δ S1).bind _ else _) = _
    dsimp only
    split
    · unfold m3M
      cases er δ S1 with
      | ok ds S2 => show (match gm S2 d ds with | some (z, S3) => (Res.ok z S3 : Res D) | none => .bad) = ofP (gm S2 d ds); cases gm S2 d ds <;> rfl
      | exc _ _ => rfl
      | bad => rfl
    · rfl
  | exc _ _ => rfl
  | bad => rfl
def m3MF (g : Sto → D → List D → Option (List D)) (d : D) (r : Res (List D)) : Res (List D) := match r with | .ok ds S1 => ofF (g S1 d ds) S1 | .exc x S => .exc x S | .bad => .bad
@[simp] theorem m3MF_ok {gm : Sto → D → List D → Option (List D)} : m3MF gm d (.ok ds S1) = ofF (gm S1 d ds) S1 := (rfl)
@[simp] theorem m3MF_exc {gm : Sto → D → List D → Option (List D)} : m3MF gm d (.exc x S1) = .exc x S1 := (rfl)
@[simp] theorem m3MF_bad {gm : Sto → D → List D → Option (List D)} : m3MF gm d .bad = .bad := (rfl)
def m2MF (T : String) (g : Sto → D → List D → Option (List D)) (r0 : EA) (δ : Sl) (r : Res D) : Res (List D) := match r with | .ok d S1 => if isTy T S1 d = true then m3MF g d (r0 δ S1) else .bad | .exc x S => .exc x S | .bad => .bad
@[simp] theorem m2MF_ok {gm : Sto → D → List D → Option (List D)} {T : String} : m2MF T gm er δ (.ok d S1) = if isTy T S1 d = true then m3MF gm d (er δ S1) else .bad := (rfl)
@[simp] theorem m2MF_exc {gm : Sto → D → List D → Option (List D)} {T : String} : m2MF T gm er δ (.exc x S1) = .exc x S1 := (rfl)
@[simp] theorem m2MF_bad {gm : Sto → D → List D → Option (List D)} {T : String} : m2MF T gm er δ .bad = .bad := (rfl)
@[simp] theorem cMF_ap {gm : Sto → D → List D → Option (List D)} {T : String} : cMF T gm a er δ S = m2MF T gm er δ (a δ S) := by
  unfold cMF m2MF
  cases a δ S with
  | ok d S1 =>
    show (if isTy T S1 d = true then (er δ S1).bind _ else _) = _
    dsimp only
    split
    · unfold m3MF
      cases er δ S1 with
      | ok ds S2 => show (match gm S2 d ds with | some zs => (Res.ok zs S2 : Res (List D)) | none => .bad) = ofF (gm S2 d ds) S2; cases gm S2 d ds <;> rfl
      | exc _ _ => rfl
      | bad => rfl
    · rfl
  | exc _ _ => rfl
  | bad => rfl
@[simp] theorem oNo_ap : oNo δ S = .ok none S := (rfl)
def os2 (r : Res D) : Res (Option Int) := match r with | .ok d S1 => (match d with | .int m => .ok (some m) S1 | _ => .bad) | .exc x S => .exc x S | .bad => .bad
@[simp] theorem os2_ok {m : Int} : os2 (.ok (.int m) S1) = .ok (some m) S1 := (rfl)
@[simp] theorem os2_exc : os2  (.exc x S1) = .exc x S1 := (rfl)
@[simp] theorem os2_bad : os2  .bad = .bad := (rfl)
@[simp] theorem oSome_ap : oSome a δ S = os2 (a δ S) := by unfold oSome os2; cases a δ S <;> rfl
def sl4 (d : D) (lo : Option Int) (r : Res (Option Int)) : Res D := match r with | .ok hi S1 => ofO (gCut S1 d lo hi) S1 | .exc x S => .exc x S | .bad => .bad
@[simp] theorem sl4_ok {lo hi : Option Int} : sl4 d lo (.ok hi S1) = ofO (gCut S1 d lo hi) S1 := (rfl)
def sl3 (d : D) (h : EvO) (δ : Sl) (r : Res (Option Int)) : Res D := match r with | .ok lo S1 => sl4 d lo (h δ S1) | .exc x S => .exc x S | .bad => .bad
@[simp] theorem sl3_ok {h : EvO} {lo : Option Int} : sl3 d h δ (.ok lo S1) = sl4 d lo (h δ S1) := (rfl)
def sl2 (l h : EvO) (δ : Sl) (r : Res D) : Res D := match r with | .ok d S1 => sl3 d h δ (l δ S1) | .exc x S => .exc x S | .bad => .bad
@[simp] theorem sl2_ok {l h : EvO} : sl2 l h δ (.ok d S1) = sl3 d h δ (l δ S1) := (rfl)
@[simp] theorem cSl_ap {l h : EvO} : cSl a l h δ S = sl2 l h δ (a δ S) := by
  unfold cSl sl2
  cases a δ S with
  | ok d S1 =>
    show (l δ S1).bind _ = sl3 d h δ (l δ S1)
    unfold sl3
    cases l δ S1 with
    | ok lo S2 => show (h δ S2).bind _ = sl4 d lo (h δ S2); unfold sl4; cases h δ S2 <;> rfl
    | exc _ _ => rfl
    | bad => rfl
  | exc _ _ => rfl
  | bad => rfl
def nxt (s : EvS) (o : Out) : Out := match o with | .nx δ S => s δ S | o => o
@[simp] theorem nxt_nx : nxt s (.nx δ S) = s δ S := (rfl)
@[simp] theorem nxt_rt : nxt s (.rt d S) = .rt d S := (rfl)
@[simp] theorem nxt_bk : nxt s (.bk δ S) = .bk δ S := (rfl)
@[simp] theorem nxt_ct : nxt s (.ct δ S) = .ct δ S := (rfl)
@[simp] theorem nxt_ex : nxt s (.ex x δ S) = .ex x δ S := (rfl)
@[simp] theorem nxt_bad : nxt s .bad = .bad := (rfl)
@[simp] theorem nxt_ite {o o2 : Out} : nxt s (if p then o else o2) = if p then nxt s o else nxt s o2 := by split <;> rfl
@[simp] theorem sSeq_ap : sSeq s s' δ S = nxt s' (s δ S) := by unfold sSeq nxt; cases s δ S <;> rfl
@[simp] theorem sNx_ap : sNx δ S = .nx δ S := (rfl)
@[simp] theorem sRetN_ap : sRetN δ S = .rt .non S := (rfl)
@[simp] theorem sCont_ap : sCont δ S = .ct δ S := (rfl)
@[simp] theorem sBreak_ap : sBreak δ S = .bk δ S := (rfl)
def set2 (i : Nat) (δ : Sl) (r : Res D) : Out := match r with | .ok d S1 => .nx (δ.set i (some d)) S1 | .exc x S => .ex x δ S | .bad => .bad
@[simp] theorem set2_ok : set2 i δ (.ok d S1) = .nx (δ.set i (some d)) S1 := (rfl)
@[simp] theorem set2_exc : set2 i δ (.exc x S1) = .ex x δ S1 := (rfl)
@[simp] theorem set2_bad : set2 i δ .bad = .bad := (rfl)
@[simp] theorem sSet_ap : sSet i a δ S = set2 i δ (a δ S) := by unfold sSet set2; cases a δ S <;> rfl
def ret2 (δ : Sl) (r : Res D) : Out := match r with | .ok d S1 => .rt d S1 | .exc x S => .ex x δ S | .bad => .bad
@[simp] theorem ret2_ok : ret2  δ (.ok d S1) = .rt d S1 := (rfl)
@[simp] theorem ret2_exc : ret2  δ (.exc x S1) = .ex x δ S1 := (rfl)
@[simp] theorem ret2_bad : ret2  δ .bad = .bad := (rfl)
@[simp] theorem sRet_ap : sRet  a δ S = ret2  δ (a δ S) := by unfold sRet ret2; cases a δ S <;> rfl
def exp2 (δ : Sl) (r : Res D) : Out := match r with | .ok d S1 => .nx δ S1 | .exc x S => .ex x δ S | .bad => .bad
@[simp] theorem exp2_ok : exp2  δ (.ok d S1) = .nx δ S1 := (rfl)
@[simp] theorem exp2_exc : exp2  δ (.exc x S1) = .ex x δ S1 := (rfl)
@[simp] theorem exp2_bad : exp2  δ .bad = .bad := (rfl)
@[simp] theorem sExpr_ap : sExpr  a δ S = exp2  δ (a δ S) := by unfold sExpr exp2; cases a δ S <;> rfl
def rai2 (i : Nat) (δ : Sl) (r : Res D) : Out := match r with | .ok d S1 => .ex ⟨i, some d⟩ δ S1 | .exc x S => .ex x δ S | .bad => .bad
@[simp] theorem rai2_ok : rai2 i δ (.ok d S1) = .ex ⟨i, some d⟩ δ S1 := (rfl)
@[simp] theorem rai2_exc : rai2 i δ (.exc x S1) = .ex x δ S1 := (rfl)
@[simp] theorem rai2_bad : rai2 i δ .bad = .bad := (rfl)
@[simp] theorem sRaise_ap : sRaise i a δ S = rai2 i δ (a δ S) := by unfold sRaise rai2; cases a δ S <;> rfl
def if2 (s s' : EvS) (δ : Sl) (r : Res Bool) : Out := match r with | .ok k S1 => if k = true then s δ S1 else s' δ S1 | .exc x S => .ex x δ S | .bad => .bad
@[simp] theorem if2_ok {k : Bool} : if2 s s' δ (.ok k S1) = if k = true then s δ S1 else s' δ S1 := (rfl)
@[simp] theorem if2_exc : if2 s s' δ (.exc x S1) = .ex x δ S1 := (rfl)
@[simp] theorem if2_bad : if2 s s' δ .bad = .bad := (rfl)
@[simp] theorem sIf_ap : sIf t s s' δ S = if2 s s' δ (t δ S) := by unfold sIf if2; cases t δ S <;> rfl
def sub4 (d : D) (o : D) (δ : Sl) (r : Res D) : Out := match r with
  | .ok y S3 => (match o, y with
    | .loc n, .int i => (match S3[n]? with
      | some (.lst ds) => (match ixN ds.length i with
        | some j => .nx δ (S3.set n (.lst (ds.set j d)))
        | none => .bad)
      | _ => .bad)
    | _, _ => .bad)
  | .exc x S => .ex x δ S
  | .bad => .bad
theorem sub4_ok {n : Nat} {m : Int} (h : S[n]? = some (.lst ds)) : sub4 d (.loc n) δ (.ok (.int m) S) = (match ixN ds.length m with | some j => .nx δ (S.set n (.lst (ds.set j d))) | none => .bad) := by unfold sub4; simp only [h]
def sub3 (d : D) (i : Ev) (δ : Sl) (r : Res D) : Out := match r with | .ok o S1 => sub4 d o δ (i δ S1) | .exc x S => .ex x δ S | .bad => .bad
@[simp] theorem sub3_ok : sub3 d b δ (.ok e S1) = sub4 d e δ (b δ S1) := (rfl)
def sub2 (o i : Ev) (δ : Sl) (r : Res D) : Out := match r with | .ok d S1 => sub3 d i δ (o δ S1) | .exc x S => .ex x δ S | .bad => .bad
@[simp] theorem sub2_ok : sub2 a b δ (.ok d S1) = sub3 d b δ (a δ S1) := (rfl)
@[simp] theorem sSub_ap : sSub a b c δ S = sub2 a b δ (c δ S) := by
  unfold sSub sub2
  cases c δ S with
  | ok d S1 =>
    show (a δ S1).out δ _ = sub3 d b δ (a δ S1)
    unfold sub3
    cases a δ S1 with
    | ok o S2 => show (b δ S2).out δ _ = sub4 d o δ (b δ S2); unfold sub4; cases b δ S2 <;> rfl
    | exc _ _ => rfl
    | bad => rfl
  | exc _ _ => rfl
  | bad => rfl
noncomputable def for2 (t : Tgt) (s : EvS) (δ : Sl) (r : Res Items) : Out := match r with | .ok it S1 => forL it t s it.1 δ S1 | .exc x S => .ex x δ S | .bad => .bad
@[simp] theorem for2_ok {tg : Tgt} {it : Items} : for2 tg s δ (.ok it S1) = forL it tg s it.1 δ S1 := (rfl)
@[simp] theorem sFor_ap {src : Src} {tg : Tgt} : sFor src tg s δ S = for2 tg s δ (src δ S) := by unfold sFor for2; cases src δ S <;> rfl
def nat2 (r : Res D) : Res Items := match r with | .ok d S1 => (match itemsOf S1 d with | some it => .ok it S1 | none => .bad) | .exc x S => .exc x S | .bad => .bad
@[simp] theorem nat2_lst : nat2 (.ok (.lst ds) S1) = .ok (ds, none) S1 := (rfl)
@[simp] theorem nat2_tup : nat2 (.ok (.tup ds) S1) = .ok (ds, none) S1 := (rfl)
@[simp] theorem nat2_scr {ns : List Int} : nat2 (.ok (.scr ns) S1) = .ok (ns.map .int, none) S1 := (rfl)
@[simp] theorem nat2_str {z : List Nat} : nat2 (.ok (.str z) S1) = .ok (z.map (fun c => .str [c]), none) S1 := (rfl)
@[simp] theorem iSeq_ap : iSeq a δ S = nat2 (a δ S) := by unfold iSeq nat2; cases a δ S <;> rfl
def rg2 (r : Res D) : Res Items := match r with | .ok d S1 => (match d with | .int j => if bnd j then .ok (rngL 0 j.toNat, none) S1 else .bad | _ => .bad) | .exc x S => .exc x S | .bad => .bad
theorem rg2_ok {m : Int} : rg2 (.ok (.int m) S1) = if bnd m then .ok (rngL 0 m.toNat, none) S1 else .bad := (rfl)
theorem rg2_nat {m : Nat} (h : m ≤ 1000000000) : rg2 (.ok (.int m) S1) = .ok (rngL 0 m, none) S1 := by
  rw [rg2_ok, if_pos ⟨by omega, by omega⟩, Int.toNat_natCast]
@[simp] theorem iRng1_ap : iRng1' a δ S = rg2 (a δ S) := by unfold rg2 iRng1'; cases a δ S <;> rfl
theorem okS_none : okS (ds, none) S := trivial
@[simp] theorem okS_n : okS (ds, none) S = True := (rfl)
noncomputable def fo2 (it : Items) (t : Tgt) (s : EvS) (ds : List D) (o : Out) : Out := match o with
  | .nx δ S => forL it t s ds δ S
  | .ct δ S => forL it t s ds δ S
  | .bk δ S => .nx δ S
  | o => o
@[simp] theorem fo2_nx {it : Items} {tg : Tgt} : fo2 it tg s ds (.nx δ S) = forL it tg s ds δ S := (rfl)
@[simp] theorem fo2_ct {it : Items} {tg : Tgt} : fo2 it tg s ds (.ct δ S) = forL it tg s ds δ S := (rfl)
@[simp] theorem fo2_bk {it : Items} {tg : Tgt} : fo2 it tg s ds (.bk δ S) = .nx δ S := (rfl)
@[simp] theorem fo2_rt {it : Items} {tg : Tgt} : fo2 it tg s ds (.rt d S) = .rt d S := (rfl)
@[simp] theorem fo2_ex {it : Items} {tg : Tgt} : fo2 it tg s ds (.ex x δ S) = .ex x δ S := (rfl)
@[simp] theorem fo2_bad {it : Items} {tg : Tgt} : fo2 it tg s ds .bad = .bad := (rfl)
theorem forL_nil {q : List D} {tg : Tgt} : forL (q, none) tg s [] δ S = .nx δ S := by unfold forL; exact if_pos trivial
theorem forL_cons {q : List D} {tg : Tgt} (h : tg d δ S = some δ1) : forL (q, none) tg s (d :: ds) δ S = fo2 (q, none) tg s ds (s δ1 S) := by
  unfold forL
  rw [if_pos (show okS (q, none) S from trivial)]
  simp only [h]
  unfold fo2
  cases s δ1 S <;> rfl
theorem forL_nm {q : List D} : forL (q, none) (tNm i) s (d :: ds) δ S = fo2 (q, none) (tNm i) s ds (s (δ.set i (some d)) S) := forL_cons rfl
def wh3 (t : EvB) (s : EvS) (n : Nat) (o : Out) : Out := match o with
  | .nx δ S => whileL t s n δ S
  | .ct δ S => whileL t s n δ S
  | .bk δ S => .nx δ S
  | o => o
@[simp] theorem wh3_nx {n : Nat} : wh3 t s n (.nx δ S) = whileL t s n δ S := (rfl)
@[simp] theorem wh3_ct {n : Nat} : wh3 t s n (.ct δ S) = whileL t s n δ S := (rfl)
@[simp] theorem wh3_bk {n : Nat} : wh3 t s n (.bk δ S) = .nx δ S := (rfl)
@[simp] theorem wh3_rt {n : Nat} : wh3 t s n (.rt d S) = .rt d S := (rfl)
@[simp] theorem wh3_ex {n : Nat} : wh3 t s n (.ex x δ S) = .ex x δ S := (rfl)
theorem whileL_go {n : Nat} (h : t δ S = .ok true S1) : whileL t s (n + 1) δ S = wh3 t s n (s δ S1) := by
  unfold whileL
  rw [h]
  simp only [Res.out_ok, if_true]
  unfold wh3
  cases s δ S1 <;> rfl
theorem whileL_end {n : Nat} (h : t δ S = .ok false S1) : whileL t s (n + 1) δ S = .nx δ S1 := by
  unfold whileL
  rw [h]; rfl
def try2 (i : Nat) (m : Nat → Option Bool) (su : Exn → EvS) (o : Out) : Out := match o with
  | .ex x δ1 S1 => (match m x.c, x.v with
    | some true, some _ => (su x (δ1.set i none) S1).drop i
    | some false, _ => .ex x δ1 S1
    | _, _ => .bad)
  | o => o
@[simp] theorem try2_nx {m : Nat → Option Bool} {su : Exn → EvS} : try2 i m su (.nx δ S) = .nx δ S := (rfl)
@[simp] theorem try2_rt {m : Nat → Option Bool} {su : Exn → EvS} : try2 i m su (.rt d S) = .rt d S := (rfl)
@[simp] theorem try2_ex {m : Nat → Option Bool} {su : Exn → EvS} {c : Nat} : try2 i m su (.ex ⟨c, some d⟩ δ S) = match m c with | some true => (su ⟨c, some d⟩ (δ.set i none) S).drop i | some false => .ex ⟨c, some d⟩ δ S | none => .bad := by
  unfold try2
  dsimp only
  cases m c with
  | none => rfl
  | some k => cases k <;> rfl
@[simp] theorem sTryAs_ap {m : Nat → Option Bool} {su : Exn → EvS} : sTryAs i m s su δ S = try2 i m su (s δ S) := by unfold sTryAs try2; cases s δ S <;> rfl
def try3 (m : Nat → Option Bool) (su : Exn → EvS) (o : Out) : Out := match o with
  | .ex x δ1 S1 => (match m x.c with
    | some true => (su x δ1 S1).calm
    | some false => .ex x δ1 S1
    | none => .bad)
  | o => o
@[simp] theorem try3_nx {m : Nat → Option Bool} {su : Exn → EvS} : try3 m su (.nx δ S) = .nx δ S := (rfl)
@[simp] theorem try3_rt {m : Nat → Option Bool} {su : Exn → EvS} : try3 m su (.rt d S) = .rt d S := (rfl)
@[simp] theorem try3_ex {m : Nat → Option Bool} {su : Exn → EvS} : try3 m su (.ex x δ S) = match m x.c with | some true => (su x δ S).calm | some false => .ex x δ S | none => .bad := (rfl)
@[simp] theorem sTryO_ap {m : Nat → Option Bool} {su : Exn → EvS} : sTryO m s su δ S = try3 m su (s δ S) := by unfold sTryO try3; cases s δ S <;> rfl
@[simp] theorem drop_nx : (Out.nx δ S).drop i = .nx (δ.set i none) S := (rfl)
@[simp] theorem drop_ct : (Out.ct δ S).drop i = .ct (δ.set i none) S := (rfl)
@[simp] theorem drop_rt : (Out.rt d S).drop i = .rt d S := (rfl)
@[simp] theorem calm_nx : (Out.nx δ S).calm = .nx δ S := (rfl)
@[simp] theorem calm_rt : (Out.rt d S).calm = .rt d S := (rfl)
def xf2 (o : Option (Option D)) (v : Option D) (S : Sto) : Res D := match o, v with
  | some none, some d => .ok d S
  | _, _ => .bad
@[simp] theorem xf2_ok : xf2 (some none) (some d) S = .ok d S := (rfl)
@[simp] theorem cXf_ap : cXf i x δ S = xf2 δ[i]? x.v S := by unfold cXf xf2; rfl
@[simp] theorem fin_rt : (Out.rt d S).fin = .ok d S := (rfl)
@[simp] theorem fin_nx : (Out.nx δ S).fin = .ok .non S := (rfl)
@[simp] theorem fin_ex : (Out.ex x δ S).fin = .exc x S := (rfl)
@[simp] theorem fin_bad : Out.bad.fin = .bad := (rfl)
@[simp] theorem fin_ite {o o2 : Out} : (if p then o else o2).fin = if p then o.fin else o2.fin := by split <;> rfl
def setL2 (i : Nat) (δ : Sl) (r : Res (List D)) : Out := match r with | .ok ds S1 => .nx (δ.set i (some (.lst ds))) S1 | .exc x S => .ex x δ S | .bad => .bad
@[simp] theorem setL2_ok : setL2 i δ (.ok ds S1) = .nx (δ.set i (some (.lst ds))) S1 := (rfl)
@[simp] theorem sSetLc_ap : sSetLc i er δ S = setL2 i δ (er δ S) := by unfold sSetLc setL2; cases er δ S <;> rfl
def setN2 (i : Nat) (δ : Sl) (r : Res (List D)) : Out := match r with | .ok ds S1 => .nx (δ.set i (some (.loc S1.length))) (S1 ++ [.lst ds]) | .exc x S => .ex x δ S | .bad => .bad
@[simp] theorem setN2_ok : setN2 i δ (.ok ds S1) = .nx (δ.set i (some (.loc S1.length))) (S1 ++ [.lst ds]) := (rfl)
@[simp] theorem sSetLcN_ap : sSetLcN i er δ S = setN2 i δ (er δ S) := by unfold sSetLcN setN2; cases er δ S <;> rfl
noncomputable def lc2 (t : Tgt) (tc : EvB) (te : Ev) (vs : List Nat) (δ : Sl) (r : Res Items) : Res (List D) := match r with | .ok it S1 => lcL it t tc te vs δ it.1 S1 [] | .exc x S => .exc x S | .bad => .bad
@[simp] theorem lc2_ok {tg : Tgt} {it : Items} {vs : List Nat} : lc2 tg t a vs δ (.ok it S1) = lcL it tg t a vs δ it.1 S1 [] := (rfl)
@[simp] theorem cLc_ap {src : Src} {tg : Tgt} {vs : List Nat} : cLc src tg t a vs δ S = lc2 tg t a vs δ (src δ S) := by unfold cLc lc2; cases src δ S <;> rfl
/-- a comprehension over items that nobody changes, each giving one value, the store kept by an invariant -/
theorem lcL_all {q : List D} {tg : Tgt} {vs : List Nat} {f : D → D} (hf : ∀ d ∈ ds, ∃ δ1, tg d (wipeD δ vs) S = some δ1 ∧ t δ1 S = .ok true S ∧ a δ1 S = .ok (f d) S) : ∀ acc : List D, acc.length + ds.length ≤ 1000000 → lcL (q, none) tg t a vs δ ds S acc = .ok (acc ++ ds.map f) S := by
  induction ds with
  | nil => intro acc _; unfold lcL; rw [if_pos (show okS (q, none) S from trivial)]; simp
  | cons d ds ih =>
    intro acc hl
    obtain ⟨δ1, h1, h2, h3⟩ := hf d List.mem_cons_self
    unfold lcL
    rw [if_pos (show okS (q, none) S from trivial)]
    simp only [h1, h2, h3, Res.nox, Res.bind_ok, if_true]
    rw [List.length_cons] at hl
    rw [if_pos (by omega), ih (fun e he => hf e (List.mem_cons_of_mem _ he)) (acc ++ [f d]) (by simp; omega)]
    simp
theorem lcL_some {q : List D} {tg : Tgt} {vs : List Nat} {f : D → D} {k : D → Bool} (hf : ∀ d ∈ ds, ∃ δ1, tg d (wipeD δ vs) S = some δ1 ∧ t δ1 S = .ok (k d) S ∧ (k d = true → a δ1 S = .ok (f d) S)) : ∀ acc : List D, acc.length + ds.length ≤ 1000000 → lcL (q, none) tg t a vs δ ds S acc = .ok (acc ++ (ds.filter k).map f) S := by
  induction ds with
  | nil => intro acc _; unfold lcL; rw [if_pos (show okS (q, none) S from trivial)]; simp
  | cons d ds ih =>
    intro acc hl
    obtain ⟨δ1, h1, h2, h3⟩ := hf d List.mem_cons_self
    unfold lcL
    rw [if_pos (show okS (q, none) S from trivial)]
    rw [List.length_cons] at hl
    cases hk : k d with
    | true =>
      simp only [h1, h2, h3 hk, hk, Res.nox, Res.bind_ok, if_true]
      rw [if_pos (by omega), ih (fun e he => hf e (List.mem_cons_of_mem _ he)) (acc ++ [f d]) (by simp; omega)]
      simp [List.filter_cons, hk]
    | false =>
      simp only [h1, h2, hk, Res.nox, Res.bind_ok]
      rw [if_neg (by simp), ih (fun e he => hf e (List.mem_cons_of_mem _ he)) acc (by omega)]
      simp [List.filter_cons, hk]
@[simp] theorem gAdd_i {m n : Int} : gAdd S (.int m) (.int n) = some (.int (m + n)) := (rfl)
@[simp] theorem gAdd_s {y z : List Nat} : gAdd S (.str y) (.str z) = if y.length + z.length ≤ 1000000 then some (.str (y ++ z)) else none := (rfl)
@[simp] theorem gAdd_l {y z : List D} : gAdd S (.lst y) (.lst z) = if y.length + z.length ≤ 1000000 then some (.lst (y ++ z)) else none := (rfl)
@[simp] theorem gSub_i {m n : Int} : gSub S (.int m) (.int n) = some (.int (m - n)) := (rfl)
@[simp] theorem gMul_i {m n : Int} : gMul S (.int m) (.int n) = if m.natAbs.log2 + n.natAbs.log2 < 1000000 then some (.int (m * n)) else none := (rfl)
@[simp] theorem gMul_s {y : List Nat} {n : Int} : gMul S (.str y) (.int n) = if 1 ≤ n ∧ n ≤ 100000 ∧ y.length = 1 then some (.str (List.replicate n.toNat (y.getD 0 0))) else none := (rfl)
@[simp] theorem gMod_i {m n : Int} : gMod S (.int m) (.int n) = if 0 < n then some (.int (m % n)) else none := (rfl)
@[simp] theorem gDiv_i {m n : Int} : gDiv S (.int m) (.int n) = if 0 < n ∧ n.natAbs.log2 < 9000 then some (.int (m / n)) else none := (rfl)
@[simp] theorem gPow_i {m n : Int} : gPow S (.int m) (.int n) = if 0 ≤ n ∧ n ≤ 1000 ∧ m.natAbs < 2 ^ 64 then some (.int (m ^ n.toNat)) else none := (rfl)
@[simp] theorem gNeg_i {m : Int} : gNeg S (.int m) = some (.int (-m)) := (rfl)
@[simp] theorem gEq_i {m n : Int} : gEq S (.int m) (.int n) = some (.bl (decide (m = n))) := (rfl)
@[simp] theorem gEq_s {y z : List Nat} : gEq S (.str y) (.str z) = some (.bl (decide (y = z))) := (rfl)
@[simp] theorem gNe_i {m n : Int} : gNe S (.int m) (.int n) = some (.bl (!decide (m = n))) := (rfl)
@[simp] theorem gNe_s {y z : List Nat} : gNe S (.str y) (.str z) = some (.bl (!decide (y = z))) := (rfl)
@[simp] theorem gCmp_i {q : Int → Int → Bool} {q2 : List Nat → List Nat → Bool} {m n : Int} : gCmp q q2 S (.int m) (.int n) = some (.bl (q m n)) := (rfl)
@[simp] theorem gIs_n : gIs S .non .non = some (.bl true) := (rfl)
@[simp] theorem gIs_i {m : Int} : gIs S (.int m) .non = some (.bl false) := (rfl)
@[simp] theorem gIs_s {y : List Nat} : gIs S (.str y) .non = some (.bl false) := (rfl)
@[simp] theorem gIs_l : gIs S (.lst ds) .non = some (.bl false) := (rfl)
@[simp] theorem gIs_t : gIs S (.tup ds) .non = some (.bl false) := (rfl)
@[simp] theorem gIs_o {n : Nat} : gIs S (.loc n) .non = some (.bl false) := (rfl)
@[simp] theorem gIsNot_n : gIsNot S .non .non = some (.bl false) := (rfl)
@[simp] theorem gIsNot_i {m : Int} : gIsNot S (.int m) .non = some (.bl true) := (rfl)
@[simp] theorem gIsNot_s {y : List Nat} : gIsNot S (.str y) .non = some (.bl true) := (rfl)
@[simp] theorem gIn_c {n : Nat} {z : List Nat} : gIn S (.str [n]) (.str z) = some (.bl (decide (n ∈ z))) := (rfl)
@[simp] theorem gNotIn_c {n : Nat} {z : List Nat} : gNotIn S (.str [n]) (.str z) = some (.bl (!decide (n ∈ z))) := (rfl)
@[simp] theorem gIx_t {m : Int} : gIx S (.tup ds) (.int m) = atI ds m := (rfl)
@[simp] theorem gIx_l {m : Int} : gIx S (.lst ds) (.int m) = atI ds m := (rfl)
@[simp] theorem gIx_scr {ns : List Int} {m : Int} : gIx S (.scr ns) (.int m) = (atI ns m).map .int := (rfl)
@[simp] theorem gIx_s {z : List Nat} {m : Int} : gIx S (.str z) (.int m) = if z.length ≤ 1000000 then (atI z m).map fun c => .str [c] else none := (rfl)
theorem gIx_o {n : Nat} {m : Int} (h : S[n]? = some (.lst ds)) : gIx S (.loc n) (.int m) = atI ds m := by
  show (asL S (.loc n)).bind (fun ds => atI ds m) = _
  unfold asL
  simp only [h]
  rfl
@[simp] theorem isB_bl {k : Bool} : isB (.bl k) = some k := (rfl)
@[simp] theorem truth_bl {k : Bool} : truth S (.bl k) = some k := (rfl)
@[simp] theorem truth_non : truth S .non = some false := (rfl)
@[simp] theorem truth_i {m : Int} : truth S (.int m) = some (m != 0) := (rfl)
@[simp] theorem truth_s {z : List Nat} : truth S (.str z) = if z.length ≤ 1000000 then some (!z.isEmpty) else none := (rfl)
@[simp] theorem truth_l : truth S (.lst ds) = some (!ds.isEmpty) := (rfl)
@[simp] theorem isi_non {T : Ty} : gIsi T S .non = some (.bl (Ty.non.sub T)) := (rfl)
@[simp] theorem isi_bl {T : Ty} {k : Bool} : gIsi T S (.bl k) = some (.bl (Ty.bool.sub T)) := (rfl)
@[simp] theorem isi_i {T : Ty} {m : Int} : gIsi T S (.int m) = some (.bl (Ty.int.sub T)) := (rfl)
@[simp] theorem isi_s {T : Ty} {z : List Nat} : gIsi T S (.str z) = some (.bl (Ty.str.sub T)) := (rfl)
@[simp] theorem isi_t {T : Ty} : gIsi T S (.tup ds) = some (.bl (Ty.tuple.sub T)) := (rfl)
@[simp] theorem isi_l {T : Ty} : gIsi T S (.lst ds) = some (.bl (Ty.list.sub T)) := (rfl)
theorem isi_o {T : Ty} {n : Nat} (h : S[n]? = some (.lst ds)) : gIsi T S (.loc n) = some (.bl (Ty.list.sub T)) := by
  unfold gIsi tyD
  simp only [h]
  rfl
@[simp] theorem sub_non_non : Ty.sub .non .non = true := (rfl)
@[simp] theorem sub_non_bool : Ty.sub .non .bool = false := (rfl)
@[simp] theorem sub_non_int : Ty.sub .non .int = false := (rfl)
@[simp] theorem sub_non_str : Ty.sub .non .str = false := (rfl)
@[simp] theorem sub_non_tuple : Ty.sub .non .tuple = false := (rfl)
@[simp] theorem sub_non_list : Ty.sub .non .list = false := (rfl)
@[simp] theorem sub_non_dict : Ty.sub .non .dict = false := (rfl)
@[simp] theorem sub_bool_non : Ty.sub .bool .non = false := (rfl)
@[simp] theorem sub_bool_bool : Ty.sub .bool .bool = true := (rfl)
@[simp] theorem sub_bool_int : Ty.sub .bool .int = true := (rfl)
@[simp] theorem sub_bool_str : Ty.sub .bool .str = false := (rfl)
@[simp] theorem sub_bool_tuple : Ty.sub .bool .tuple = false := (rfl)
@[simp] theorem sub_bool_list : Ty.sub .bool .list = false := (rfl)
@[simp] theorem sub_bool_dict : Ty.sub .bool .dict = false := (rfl)
@[simp] theorem sub_int_non : Ty.sub .int .non = false := (rfl)
@[simp] theorem sub_int_bool : Ty.sub .int .bool = false := (rfl)
@[simp] theorem sub_int_int : Ty.sub .int .int = true := (rfl)
@[simp] theorem sub_int_str : Ty.sub .int .str = false := (rfl)
@[simp] theorem sub_int_tuple : Ty.sub .int .tuple = false := (rfl)
@[simp] theorem sub_int_list : Ty.sub .int .list = false := (rfl)
@[simp] theorem sub_int_dict : Ty.sub .int .dict = false := (rfl)
@[simp] theorem sub_str_non : Ty.sub .str .non = false := (rfl)
@[simp] theorem sub_str_bool : Ty.sub .str .bool = false := (rfl)
@[simp] theorem sub_str_int : Ty.sub .str .int = false := (rfl)
@[simp] theorem sub_str_str : Ty.sub .str .str = true := (rfl)
@[simp] theorem sub_str_tuple : Ty.sub .str .tuple = false := (rfl)
@[simp] theorem sub_str_list : Ty.sub .str .list = false := (rfl)
@[simp] theorem sub_str_dict : Ty.sub .str .dict = false := (rfl)
@[simp] theorem sub_tuple_non : Ty.sub .tuple .non = false := (rfl)
@[simp] theorem sub_tuple_bool : Ty.sub .tuple .bool = false := (rfl)
@[simp] theorem sub_tuple_int : Ty.sub .tuple .int = false := (rfl)
@[simp] theorem sub_tuple_str : Ty.sub .tuple .str = false := (rfl)
@[simp] theorem sub_tuple_tuple : Ty.sub .tuple .tuple = true := (rfl)
@[simp] theorem sub_tuple_list : Ty.sub .tuple .list = false := (rfl)
@[simp] theorem sub_tuple_dict : Ty.sub .tuple .dict = false := (rfl)
@[simp] theorem sub_list_non : Ty.sub .list .non = false := (rfl)
@[simp] theorem sub_list_bool : Ty.sub .list .bool = false := (rfl)
@[simp] theorem sub_list_int : Ty.sub .list .int = false := (rfl)
@[simp] theorem sub_list_str : Ty.sub .list .str = false := (rfl)
@[simp] theorem sub_list_tuple : Ty.sub .list .tuple = false := (rfl)
@[simp] theorem sub_list_list : Ty.sub .list .list = true := (rfl)
@[simp] theorem sub_list_dict : Ty.sub .list .dict = false := (rfl)
@[simp] theorem sub_dict_non : Ty.sub .dict .non = false := (rfl)
@[simp] theorem sub_dict_bool : Ty.sub .dict .bool = false := (rfl)
@[simp] theorem sub_dict_int : Ty.sub .dict .int = false := (rfl)
@[simp] theorem sub_dict_str : Ty.sub .dict .str = false := (rfl)
@[simp] theorem sub_dict_tuple : Ty.sub .dict .tuple = false := (rfl)
@[simp] theorem sub_dict_list : Ty.sub .dict .list = false := (rfl)
@[simp] theorem sub_dict_dict : Ty.sub .dict .dict = true := (rfl)
@[simp] theorem gFmt_s {z : List Nat} : gFmt S (.str z) = if z.length ≤ 1000000 then some (.str z) else none := (rfl)
@[simp] theorem gFmt_i {m : Int} : gFmt S (.int m) = if m.natAbs.log2 < 1920 then some (.str (decL m)) else none := (rfl)
def j2 (es : List Ev) (acc : List Nat) (δ : Sl) (r : Res D) : Res D := match r with | .ok d S1 => (match d with | .str y => if acc.length + y.length ≤ 1000000 then jL es (acc ++ y) δ S1 else .bad | _ => .bad) | .exc x S => .exc x S | .bad => .bad
@[simp] theorem j2_ok {es : List Ev} {acc y : List Nat} : j2 es acc δ (.ok (.str y) S1) = if acc.length + y.length ≤ 1000000 then jL es (acc ++ y) δ S1 else .bad := (rfl)
@[simp] theorem jL_nil {acc : List Nat} : jL [] acc δ S = .ok (.str acc) S := (rfl)
@[simp] theorem jL_cons {es : List Ev} {acc : List Nat} : jL (a :: es) acc δ S = j2 es acc δ (a δ S) := by unfold j2; show (a δ S).bind _ = _; cases a δ S <;> rfl
@[simp] theorem gPart_s {z y : List Nat} : gPart S (.str z) [.str y] = if y.isEmpty = false ∧ z.length ≤ 1000000 then some (match TL.par y [] z with | some (a, b) => .tup [.str a, .str y, .str b] | none => .tup [.str z, .str [], .str []], S) else none := (rfl)

@[simp] theorem gInt_i {m : Int} : gInt S (.int m) = some (.int m) := (rfl)
@[simp] theorem gInt_b {k : Bool} : gInt S (.bl k) = some (.int (if k then 1 else 0)) := (rfl)
theorem gInt_s {z : List Nat} (h : digs z = true) (h1 : z.isEmpty = false) (h2 : z.length ≤ 640) : gInt S (.str z) = some (.int ((NumText.digitsVal z : Nat) : Int)) := by unfold gInt; exact if_pos ⟨h, h1, h2⟩
@[simp] theorem gStr_i {m : Int} : gStr S (.int m) = if m.natAbs.log2 < 1920 then some (.str (decL m)) else none := (rfl)
@[simp] theorem gStr_s {z : List Nat} : gStr S (.str z) = some (.str z) := (rfl)
@[simp] theorem gAbs_i {m : Int} : gAbs S (.int m) = some (.int (if m < 0 then -m else m)) := (rfl)
@[simp] theorem gMax_i {m n : Int} : gMax S (.int m) (.int n) = some (.int (if n > m then n else m)) := (rfl)
@[simp] theorem gMin_i {m n : Int} : gMin S (.int m) (.int n) = some (.int (if n < m then n else m)) := (rfl)
@[simp] theorem g1_one {f : Sto → D → Option D} : Mp.g1 f S [d] = (f S d).map fun e => (e, S) := (rfl)
@[simp] theorem g2_two {f : Sto → D → D → Option D} : Mp.g2 f S [d, e] = (f S d e).map fun z => (z, S) := (rfl)
@[simp] theorem gLen_s {z : List Nat} : gLen S [.str z] = if z.length ≤ 1000000 then some (.int z.length, S) else none := by unfold gLen lenD; dsimp only; split <;> rfl
@[simp] theorem gLen_l : gLen S [.lst ds] = some (.int ds.length, S) := (rfl)
@[simp] theorem gLen_t : gLen S [.tup ds] = some (.int ds.length, S) := (rfl)
@[simp] theorem gLen_scr {ns : List Int} : gLen S [.scr ns] = some (.int ns.length, S) := (rfl)
@[simp] theorem gCut_s {z : List Nat} {lo hi : Option Int} : gCut S (.str z) lo hi = if z.length ≤ 1000000 then some (.str (cutL z lo hi)) else none := (rfl)
@[simp] theorem gCut_l {lo hi : Option Int} : gCut S (.lst ds) lo hi = some (.lst (cutL ds lo hi)) := (rfl)
@[simp] theorem isTy_s {T : String} {z : List Nat} : isTy T S (.str z) = (T == "str") := (rfl)
@[simp] theorem isTy_l {T : String} : isTy T S (.lst ds) = (T == "list") := (rfl)
theorem isTy_o {n : Nat} (h : S[n]? = some (.lst ds)) : isTy "list" S (.loc n) = true := by unfold isTy; simp [h]
theorem gApp_o {n : Nat} {xs : List D} (h : S[n]? = some (.lst xs)) (hl : xs.length < 1000000) : gApp S (.loc n) [d] = some (.non, S.set n (.lst (xs ++ [d]))) := by unfold gApp; simp only [h]; exact if_pos hl
@[simp] theorem gListF_t : gListF S [.tup ds] = some ds := (rfl)
@[simp] theorem gListF_l : gListF S [.lst ds] = some ds := (rfl)
@[simp] theorem bodyF_ap {N : Nat} : bodyF N s ds S = (s (ds.map some ++ List.replicate (N - ds.length) none) S).fin := (rfl)
@[simp] theorem atI_nat {α : Type} {xs : List α} {n : Nat} : atI xs (n : Int) = xs[n]? := by
  unfold atI ixN
  rw [if_pos (Int.natCast_nonneg n)]
  split
  · simp
  · rename_i h
    have : xs.length ≤ n := by omega
    simp [List.getElem?_eq_none this]
@[simp] theorem atI_0 {α : Type} {xs : List α} : atI xs 0 = xs[0]? := atI_nat (n := 0)
@[simp] theorem atI_1 {α : Type} {xs : List α} : atI xs 1 = xs[1]? := atI_nat (n := 1)
@[simp] theorem atI_2 {α : Type} {xs : List α} : atI xs 2 = xs[2]? := atI_nat (n := 2)
@[simp] theorem atI_3 {α : Type} {xs : List α} : atI xs 3 = xs[3]? := atI_nat (n := 3)
@[simp] theorem atI_4 {α : Type} {xs : List α} : atI xs 4 = xs[4]? := atI_nat (n := 4)
@[simp] theorem atI_5 {α : Type} {xs : List α} : atI xs 5 = xs[5]? := atI_nat (n := 5)
@[simp] theorem atI_6 {α : Type} {xs : List α} : atI xs 6 = xs[6]? := atI_nat (n := 6)
@[simp] theorem atI_7 {α : Type} {xs : List α} : atI xs 7 = xs[7]? := atI_nat (n := 7)
@[simp] theorem atI_8 {α : Type} {xs : List α} : atI xs 8 = xs[8]? := atI_nat (n := 8)
@[simp] theorem atI_9 {α : Type} {xs : List α} : atI xs 9 = xs[9]? := atI_nat (n := 9)
@[simp] theorem atI_10 {α : Type} {xs : List α} : atI xs 10 = xs[10]? := atI_nat (n := 10)
@[simp] theorem atI_11 {α : Type} {xs : List α} : atI xs 11 = xs[11]? := atI_nat (n := 11)
@[simp] theorem atI_12 {α : Type} {xs : List α} : atI xs 12 = xs[12]? := atI_nat (n := 12)
end Mp

/-! Mp, part 16: isinstance of one type of two. -/
namespace Mp
open PySem PySem.Spec L2
open PyProof.Rows hiding St
def gIsi2 (T U : Ty) (S : Sto) (d : D) : Option D := (tyD S d).map fun t => .bl (t.sub T || t.sub U)
section
variable {X : Cx} {G : Glo} {W : WX} {a : Expr} {ea : Ev} {pos : Pos}
theorem kit_two {K : PySem.W.Frag} (t T U : Ty) (h1 : T ≠ .non) (h2 : U ≠ .non) : PySem.W.kitAny K (.type t.nm) [.type T.nm, .type U.nm] = some (t.sub T || t.sub U) := by
  refine kitAny_cons (kit_ty (kit_sub t T h1)) (fun e => ?_) (fun e => by rw [e]; rfl)
  rw [e, Bool.false_or]
  refine kitAny_cons (kit_ty (kit_sub t U h2)) (fun e => ?_) (fun e => e)
  rw [e]; exact kitAny_nil
theorem Q.isi2 (T U : Ty) {x y : Str} {p p2 p3 p4 : Pos} {kt : Nat} (hm : X.mg "isinstance" = none) (hmx : X.mg x = none) (hmy : X.mg y = none) (ha : SE X G W a ea) (hT : T ≠ .non := by decide) (hU : U ≠ .non := by decide) (hg : Gl X "isinstance" := by rfl) (hx : Gl X x := by rfl) (hy : Gl X y := by rfl)
    (hbx : bootBuiltins x = some (.type T.nm) := by decide +kernel) (hby : bootBuiltins y = some (.type U.nm) := by decide +kernel) (hn : x ≠ "__name__" := by decide) (hn' : y ≠ "__name__" := by decide) (hd : (x == ("__debug__" : Str)) = false := by decide) (hd' : (y == ("__debug__" : Str)) = false := by decide)
    (he : starEach [a, .Tuple [.Name x p2, .Name y p3] kt p4] X.env = (false, eval a X.env) :: starEach [.Tuple [.Name x p2, .Name y p3] kt p4] X.env := by rfl)
    (he2 : starEach [.Tuple [.Name x p2, .Name y p3] kt p4] X.env = (false, eval (.Tuple [.Name x p2, .Name y p3] kt p4) X.env) :: starEach [] X.env := by rfl) (hpl : (backTo pos (starEach [.Tuple [.Name x p2, .Name y p3] kt p4] X.env)).any (·.1) = false := by rfl)
    (hs1 : starEach [.Name x p2, .Name y p3] X.env = (false, eval (.Name x p2) X.env) :: starEach [.Name y p3] X.env := by rfl) (hs2 : starEach [.Name y p3] X.env = (false, eval (.Name y p3) X.env) :: starEach [] X.env := by rfl) :
    SE X G W (.Call (.Name "isinstance" p) [a, .Tuple [.Name x p2, .Name y p3] kt p4] [] pos) (cUn (gIsi2 T U) ea) :=
  (pe_callB call_isiT hg hm (by decide +kernel) (pa_cons ha (pa_cons (pe_tup (pa_cons (pe_bltn (v := .ty T.nm) hx hmx hbx rfl hn hd) (pa_cons (pe_bltn (v := .ty U.nm) hy hmy hby rfl hn' hd') pa_nil hs2) hs1)) pa_nil he2) he) (by decide) (by decide) he hpl).conseq fun σ H Q ⟨ρ, O, δ, S, A, h⟩ =>
    Post.run A h fun d S1 ρ1 v H1 h1 s1 A1 r1 => by
      unfold gIsi2 at h1
      cases e : tyD S1 d with
      | none => rw [e] at h1; exact h1.elim
      | some t =>
        rw [e] at h1
        refine ⟨by show 2 ≤ sizeLine; decide, fun p np => ?_⟩
        exact ⟨v, p, _, _, _, _, rfl, upd_same, .cons (.ty _) (.cons (.ty _) .nil), tyX_of (A1.st.new np) (r1.mono A1.st (stp_new np)) e, kit_two t T U hT hU, h1 ρ1 _ _ (s1.trans (stp_new np)) (A1.of (stp_new np) (A1.st.new np)) (.bl _)⟩
end
section
variable {S : Sto} {ds : List D} {T U : Ty}
@[simp] theorem isi2_non : gIsi2 T U S .non = some (.bl (Ty.non.sub T || Ty.non.sub U)) := (rfl)
@[simp] theorem isi2_bl {k : Bool} : gIsi2 T U S (.bl k) = some (.bl (Ty.bool.sub T || Ty.bool.sub U)) := (rfl)
@[simp] theorem isi2_i {m : Int} : gIsi2 T U S (.int m) = some (.bl (Ty.int.sub T || Ty.int.sub U)) := (rfl)
@[simp] theorem isi2_s {z : List Nat} : gIsi2 T U S (.str z) = some (.bl (Ty.str.sub T || Ty.str.sub U)) := (rfl)
@[simp] theorem isi2_t : gIsi2 T U S (.tup ds) = some (.bl (Ty.tuple.sub T || Ty.tuple.sub U)) := (rfl)
@[simp] theorem isi2_l : gIsi2 T U S (.lst ds) = some (.bl (Ty.list.sub T || Ty.list.sub U)) := (rfl)
theorem isi2_o {n : Nat} (h : S[n]? = some (.lst ds)) : gIsi2 T U S (.loc n) = some (.bl (Ty.list.sub T || Ty.list.sub U)) := by
  unfold gIsi2 tyD
  simp only [h]
  rfl
end
end Mp

/-! Mp, part 17: sorted with a def of the module as key. -/
namespace Mp
open PySem PySem.Spec L2
open PyProof.Rows hiding St

section
variable {prog : Program} {w : World} {A : Around} {E : Value → Shared → Prop} {s : Shared}
theorem collect_tup {l : Addr} {vs : List Value} {Q : List Value → Shared → Prop} (hl : PyProof.Rows.IsTup s.heap l vs.toArray)
    (h : Q vs { s with heap := (s.heap.push (seqObj "list" #[] 0)).update s.heap.objs.size (Obj.mapSeq (· ++ vs.toArray)) }) (hsz : vs.length ≤ sizeLine) :
    wpAny (model prog w) A (collect (.ref l)) Q E s := by
  obtain ⟨o, ho, hc, n, hd⟩ := id hl
  unfold collect
  refine wpAny_bind (wpAny_runValue (codeAny_builtin entry_proto_collect' ?_))
  show wpAny _ _ (do again (.builtin "list.__iadd__" ⟨[← newList [], .ref l], []⟩)) _ _ s
  refine wpAny_bind (wpAny_newList (wpAny_pure ⟨Code.quiet_builtin _ (by decide +kernel), codeAny_builtin entry_list_iadd' ?_⟩))
  show wpAny _ _ (Builtin.List.listExtendWith (.ref s.heap.objs.size) (.ref l) (.ref s.heap.objs.size)) _ _ { s with heap := s.heap.push (seqObj "list" #[] 0) }
  unfold Builtin.List.listExtendWith
  have ho' : (s.heap.push (seqObj "list" #[] 0)).get? l = some o := Heap.get?_push_of_some _ ho
  refine wpAny_bind (wpAny_typeOf (T := "tuple") ⟨o, ho', hc⟩ ?_)
  have ht : (Value.type "tuple" == Value.type "tuple") = true := by rfl
  rw [if_pos (by rw [ht]; simp)]
  refine wpAny_bind (listItems_at ho' hd ?_)
  refine wpAny_bind (listItems_at (xs := #[]) (n := 0) (Heap.get?_push_size _ rfl) rfl ?_)
  rw [if_neg (by simp)]
  refine wpAny_bind (listUpdate_at (xs := #[]) (n := 0) (Heap.get?_push_size _ rfl) rfl ?_ (Nat.zero_le _) (by show (#[] ++ vs.toArray).size ≤ sizeLine + 1; simp only [Array.size_append, List.size_toArray, List.length_nil]; omega))
  refine wpAny_pure ?_
  show wpAny (model prog w) A (do
      let o ← load s.heap.objs.size
      match o.data with
      | .seq xs _ => pure xs.toList
      | _ => unsupported "internal:collect") Q E { s with heap := (s.heap.push (seqObj "list" #[] 0)).update s.heap.objs.size (Obj.mapSeq (· ++ vs.toArray)) }
  refine wpAny_bind (wpAny_load (get?_update_seq (Heap.get?_push_size _ rfl) _) ?_)
  show wpAny _ _ (pure ((#[] : Array Value) ++ vs.toArray).toList) Q E _
  rw [show ((#[] : Array Value) ++ vs.toArray).toList = vs by simp]
  exact wpAny_pure h
open PySem.W in
theorem sorted_of_sortT {l : Addr} {vs : List Value} {kw : List (Str × Value)} {Q : Value → Shared → Prop} (hl : PyProof.Rows.IsTup s.heap l vs.toArray) (hL : vs.length ≤ sizeLine) (ha1 : argsOk "sorted" ⟨[.ref l], kw⟩) (ha2 : ∀ x, argsOk "list.sort" ⟨[.ref x], kw⟩)
    (body : ∀ E' : Value → Shared → Prop, wpAny (model prog w) A.in1.in1 (Builtin.«list.sort» ⟨[.ref (s.heap.objs.size + 1)], kw⟩) (fun f s' => f = .done (.ret .none) ∧ Q (.ref (s.heap.objs.size + 1)) s') E' { s with heap := copyHeap s.heap vs }) :
    wpAny (model prog w) A (call (.builtin "sorted") [.ref l] kw) Q E s := by
  refine call_function_entry_kw kind_sorted plain_sorted entry_sorted ha1 ?_
  unfold Builtin.«sorted»
  refine wpAny_bind (m := checkCount "sorted" 1 1 _) (wpAny_pure ?_)
  refine wpAny_bind (collect_tup hl ?_ hL)
  refine wpAny_bind (wpAny_newList ?_ hL)
  have hsz : ((s.heap.push (seqObj "list" #[] 0)).update s.heap.objs.size (Obj.mapSeq (· ++ vs.toArray))).objs.size = s.heap.objs.size + 1 := by
    rw [Heap.size_update, size_push']
  show wpAny _ _ _ _ _ { s with heap := copyHeap s.heap vs }
  rw [hsz]
  refine wpAny_bind (wpAny_holding (wpAny_call_entry_kw slot_list_sort ⟨_, copyHeap_at s.heap vs, rfl⟩ entry_list_sort ?body (ha2 _)))
  case body =>
    show wpAny (model prog w) A.in1.in1 (Builtin.«list.sort» ⟨[.ref (s.heap.objs.size + 1)], kw⟩) _ _ _
    refine wpAny_mono (body _) (fun f s' hf => ?_) fun _ _ e => e
    obtain ⟨rfl, hq⟩ := hf
    exact ⟨_, rfl, wpAny_pure ⟨_, rfl, hq⟩⟩
open PySem.W in
/-- sorted(xs, key=f), xs a list or a tuple -/
theorem sorted_key_any {β : Type} {vs : List Value} {bs : List β} {R : Value → β → Prop} {l : Addr} {f : Value} {kw : List (Str × Value)} {b : Bool} {Q : Value → Shared → Prop} (k : β → PyData) (hl : s.heap.IsList l vs.toArray ∨ PyProof.Rows.IsTup s.heap l vs.toArray) (e : EachIs R vs bs) (hal : AllAlike (bs.map k)) (hk : Sortable (bs.map k)) (hL : bs.length ≤ sizeLine)
    (hu : ∀ x, x ∈ bs → A.units + 2 + (k x).depth < cLine) (ha1 : argsOk "sorted" ⟨[.ref l], kw⟩) (ha2 : ∀ x, argsOk "list.sort" ⟨[.ref x], kw⟩) (ht : ∀ x, Builtin.«list.sort» ⟨[.ref x], kw⟩ = ksk_tree x f b)
    (turn : ∀ (v : Value) (x : β), R v x → x ∈ bs → ∀ (h : Heap) (tk : Nat), (∀ b o, s.heap.get? b = some o → h.get? b = some o) →
      wpAny (model prog w) A.in1.in1 (call f [v]) (KeyPure (k x) { s with heap := h, toks := tk }) (fun _ _ => False) { s with heap := h, toks := tk })
    (h : ∀ out c h' tk, (∀ b o, s.heap.get? b = some o → h'.get? b = some o) → s.heap.get? (s.heap.objs.size + 1) = none → h'.get? (s.heap.objs.size + 1) = some (seqObj "list" (List.toArray out) c) → out.length = bs.length → EachIs R out (bs.mergeSort (dataLe b k)) →
      Q (.ref (s.heap.objs.size + 1)) { s with heap := h', toks := tk }) :
    wpAny (model prog w) A (call (.builtin "sorted") [.ref l] kw) Q E s := by
  rcases hl with hl | hl
  · exact sorted_key_data k hl e hal hk hL hu ha1 ha2 ht turn h
  have fresh : s.heap.get? (s.heap.objs.size + 1) = none := Heap.get?_none_of_le (Nat.le_succ _)
  have up : ∀ {g : Heap}, KeepsBut (s.heap.objs.size + 1) (copyHeap s.heap vs) g → ∀ b o, s.heap.get? b = some o → g.get? b = some o := fun {g} kp b o q =>
    kp b o (Nat.ne_of_lt (Nat.lt_succ_of_lt (Heap.lt_size q))) (copyHeap_old q)
  refine sorted_of_sortT hl (by rw [e.length]; exact hL) ha1 ha2 fun E' => ?_
  rw [ht]
  refine keyH_tree (kz := bs.map k) (s := { s with heap := copyHeap s.heap vs }) (copyHeap_at s.heap vs) (by rw [List.length_map]; exact e.length.symm) (by rw [e.length]; exact hL) hal hk (bound_map (A := A.in1.in1) hu)
    (keyH_turns (s := { s with heap := copyHeap s.heap vs }) e fun v x hR hx h tk kp => turn v x hR hx h tk (up kp)) fun h' tk out c kp hD ko => ⟨rfl, ?_⟩
  exact h out c h' tk (up kp) fresh hD ((ko.length (by rw [List.length_map]; exact e.length.symm)).trans e.length) (keyedOut_each k ko e)
end

/-! ### data without lists -/
mutual
def flatT : PyData → Bool
  | .list _ => false
  | .dict _ => false
  | .tuple xs => flatTs xs
  | _ => true
def flatTs : List PyData → Bool
  | [] => true
  | x :: xs => flatT x && flatTs xs
end
theorem reads_flat {h : Heap} : ∀ {v : Value} {d : PyData} {as : List Addr}, Reads h v d as → flatT d = true → as = [] := by
  intro v d as r
  induction r using PySem.Reads.rec (motive_2 := fun vs ds as _ => flatTs ds = true → as = []) with
  | none => exact fun _ => rfl
  | bool => exact fun _ => rfl
  | int => exact fun _ => rfl
  | str => exact fun _ => rfl
  | list => intro f; simp [flatT] at f
  | tuple _ _ _ _ ih => intro f; exact ih (by simpa [flatT] using f)
  | dict => intro f; simp [flatT] at f
  | nil => rfl
  | cons _ _ ih1 ih2 => rename_i f; simp only [flatTs, Bool.and_eq_true] at f; rw [ih1 f.1, ih2 f.2]; rfl

/-- a def of the module as a key: what it gives of data, and that it changes nothing -/
structure KeyG (P : Program) (w : World) (K : PySem.W.Frag) (mg : Str → Option Value) (base : Heap) (k : Nat) (x : Str) (ok : PyData → Bool) (kd : PyData → PyData) : Prop where
  ex : ∃ f, mg x = some (.ref f) ∧ ∀ (A : Around) (s : Shared) (v : Value) (d : PyData) (E : Value → Shared → Prop), Room k A → K.In s.heap → s.heap.NoLimit → Mod K mg base → (∀ b o, base.get? b = some o → s.heap.get? b = some o) → Reads s.heap v d [] → ok d = true →
    wpAny (model P w) A (call (.ref f) [v]) (PySem.W.KeyPure (kd d) s) E s
noncomputable def trD (S : Sto) (d : D) : PyData := (treeD S 20 d).getD .none
open Classical in
/-- sorted(d, key=..) -/
noncomputable def gSortK (ok : PyData → Bool) (kd : PyData → PyData) (S : Sto) (ds : List D) : Option (List D) := match ds with
  | [d] => (seqOf S d).bind fun zs => if zs.length ≤ 1000000 ∧ (∀ z ∈ zs, ∃ t, treeD S 20 z = some t ∧ flatT t = true ∧ ok t = true ∧ (kd t).depth ≤ 40) ∧ PySem.W.AllAlike (zs.map fun z => kd (trD S z)) ∧ PySem.W.Sortable (zs.map fun z => kd (trD S z)) then
      some (zs.mergeSort (PySem.W.dataLe false fun z => kd (trD S z))) else none
  | _ => none

theorem each_of {K : PySem.W.Frag} {ρ O : List Addr} {H : Hp} {P : D → Prop} {R : Value → V × D → Prop} : ∀ {vs : List V} {us : List Value} {zs : List D}, Vals vs us → RepL K ρ O H vs zs → (∀ z ∈ zs, P z) → (∀ v u z, RelV v u → RepV K ρ O H v z → P z → R u (v, z)) → PySem.W.EachIs R us (vs.zip zs)
  | _, _, _, .nil, .nil, _, _ => .nil
  | _, _, _, .cons r rs, .cons q qs, h, f => .cons (f _ _ _ r q (h _ List.mem_cons_self)) (each_of rs qs (fun z hz => h z (List.mem_cons_of_mem _ hz)) f)
theorem each_out {K : PySem.W.Frag} {ρ O : List Addr} {H : Hp} {R : Value → V × D → Prop} (f : ∀ u b, R u b → RelV b.1 u ∧ RepV K ρ O H b.1 b.2) : ∀ {us : List Value} {bs : List (V × D)}, PySem.W.EachIs R us bs → Vals (bs.map (·.1)) us ∧ RepL K ρ O H (bs.map (·.1)) (bs.map (·.2))
  | _, _, .nil => ⟨.nil, .nil⟩
  | _, _, .cons h t => ⟨.cons (f _ _ h).1 (each_out f t).1, .cons (f _ _ h).2 (each_out f t).2⟩
def rKey (K : PySem.W.Frag) (f : Addr) (g : Sto → List D → Option (List D)) : List V → List V → Hp → VK → Prop := fun vs zs H Q => zs = [.ref f] ∧ rF K g vs H Q
section
variable {X : Cx}
theorem cr_sortK {k : Nat} {x : Str} {ok : PyData → Bool} {kd : PyData → PyData} (F : KeyG X.prog X.w X.K X.mg X.base k x ok kd) {f : Addr} (hf : X.mg x = some (.ref f)) (hr : Room (k + 2) X.A) : CallRK X (.builtin "sorted") [Str.ofString "key"] (rKey X.K f (gSortK ok kd)) := by
  intro pins s σ H vs zs us ws Q I r rz ⟨e, ρ, O, S, ds, out, R, rl, hg, hq⟩
  subst e
  obtain ⟨w1, rfl, e1⟩ := vals1 rz
  obtain rfl : w1 = Value.ref f := e1
  unfold gSortK at hg
  split at hg
  · rename_i d
    obtain ⟨x', rfl, r1⟩ := repL_one rl
    obtain ⟨u, rfl, ru⟩ := vals1 r
    cases e0 : seqOf S d with
    | none => rw [e0] at hg; cases hg
    | some zs =>
      rw [e0] at hg
      dsimp only [Option.bind] at hg
      split at hg
      · rename_i hc
        cases hg
        obtain ⟨hlen, hts, hal, hso⟩ := hc
        obtain ⟨a, vs', rfl, hsq, q⟩ := seqOf_rep R r1 e0
        obtain rfl : u = .ref a := ru
        obtain ⟨its, rv, hl, hz⟩ : ∃ its : List Value, Vals vs' its ∧ (s.heap.IsList a its.toArray ∨ PyProof.Rows.IsTup s.heap a its.toArray) ∧ vs'.length ≤ sizeLine := by
          rcases hsq with h | h
          · obtain ⟨its, q1, q2, q3⟩ := I.list h
            exact ⟨its, q1, .inl q2.isList, q3⟩
          · obtain ⟨its, q1, q2, q3⟩ := I.tuple h
            exact ⟨its, q1, .inr q2, q3⟩
        obtain ⟨f', hf', turn⟩ := F.ex
        rw [hf] at hf'
        cases hf'
        have each : PySem.W.EachIs (fun (u : Value) (b : V × D) => RelV b.1 u ∧ RepV X.K ρ O H b.1 b.2 ∧ Reads s.heap u (trD S b.2) [] ∧ ok (trD S b.2) = true) its (vs'.zip zs) :=
          each_of rv q hts fun v u z rvu rvz ⟨t, ht, hfl, hok, hdp⟩ => by
            obtain ⟨as, rd⟩ := Dp.reads I t v u (treeD_dp R _ _ _ _ rvz ht) rvu
            have e1 : trD S z = t := by unfold trD; rw [ht]; rfl
            show RelV v u ∧ RepV X.K ρ O H v z ∧ Reads s.heap u (trD S z) [] ∧ ok (trD S z) = true
            rw [e1]
            have := reads_flat rd hfl
            subst this
            exact ⟨rvu, rvz, rd, hok⟩
        have hzl : zs.length = vs'.length := q.ix.1.symm
        have e2 : (vs'.zip zs).map (fun b => kd (trD S b.2)) = zs.map fun z => kd (trD S z) := by
          rw [show (fun b : V × D => kd (trD S b.2)) = (fun z => kd (trD S z)) ∘ Prod.snd from rfl, ← List.map_map, List.map_snd_zip (by omega)]
        have hin : ∀ b ∈ vs'.zip zs, b.2 ∈ zs := fun b hb => by
          have := List.mem_map_of_mem (f := Prod.snd) hb
          rwa [List.map_snd_zip (by omega)] at this
        refine sorted_key_any (β := V × D) (k := fun b => kd (trD S b.2)) hl each (by rw [e2]; exact hal) (by rw [e2]; exact hso) (by rw [List.length_zip]; omega) (fun b hb => ?_) (PyProof.Rows.ksk_s1 _ _) (fun _ => PyProof.Rows.ksk_l1 _ _) (fun _ => PyProof.Rows.ksk_t1 _ _) (fun v b hb _ h tk keep => ?_) fun out c h' tk keep fresh at_ hl2 each' => ?_
        · obtain ⟨t, ht, _, _, hdp⟩ := hts _ (hin b hb)
          have e1 : trD S b.2 = t := by unfold trD; rw [ht]; rfl
          have := hr.un
          show X.A.units + 2 + (kd (trD S b.2)).depth < cLine
          rw [e1]; omega
        · have hr2 : Room k X.A.in1.in1 := (Room.in1 (k := k + 1) hr).in1
          exact turn X.A.in1.in1 { s with heap := h, toks := tk } v (trD S b.2) _ hr2 (fun b o e => keep b o (I.kIn b o e)) (I.nolimit.keeps keep) I.mod (fun b o e => keep b o (I.bk b o e)) (PyProof.Rows.Reads.keeps keep hb.2.2.1) hb.2.2.2
        · obtain ⟨rv', rp'⟩ := each_out (K := X.K) (ρ := ρ) (O := O) (H := H) (fun u b h => ⟨h.1, h.2.1⟩) each'
          have e3 : ((vs'.zip zs).mergeSort (PySem.W.dataLe false fun b => kd (trD S b.2))).map Prod.snd = zs.mergeSort (PySem.W.dataLe false fun z => kd (trD S z)) := by
            have e4 := List.map_mergeSort (r := PySem.W.dataLe false fun b : V × D => kd (trD S b.2)) (s := PySem.W.dataLe false fun z => kd (trD S z)) (f := Prod.snd) (l := vs'.zip zs) (fun a _ b _ => rfl)
            rw [e4, List.map_snd_zip (by omega)]
          have hle : (((vs'.zip zs).mergeSort (PySem.W.dataLe false fun b => kd (trD S b.2))).map Prod.fst).length ≤ sizeLine := by
            rw [List.length_map, List.length_mergeSort, List.length_zip]; omega
          refine ⟨.ref _, upd H (s.heap.objs.size + 1) (.lst (((vs'.zip zs).mergeSort (PySem.W.dataLe false fun b => kd (trD S b.2))).map Prod.fst)), I.laid (t' := tk) keep (Nat.le_succ _) ⟨hle, _, c, rv', at_⟩, rfl, hq _ _ (I.hok.fresh (Nat.le_succ _)) ?_⟩
          rw [← e3]; exact rp'
      · cases hg
  · cases hg
end

section
variable {X : Cx} {G : Glo} {W : WX} {a : Expr} {ea : Ev} {pos : Pos} {es : List Expr} {er : Sl → Sto → Res (List D)}
theorem Q.sortK {k j : Nat} {x : Str} {ok : PyData → Bool} {kd : PyData → PyData} {p p2 kpos : Pos} (F : KeyG X.prog X.w X.K X.mg X.base k x ok kd) (hm : X.mg "sorted" = none) (hr : Room j X.A) (ha : SA X G W [a] er) (hkj : k + 2 ≤ j := by decide) (hg : Gl X "sorted" := by rfl) (hx : Gl X x := by rfl) (hd : (x == ("__debug__" : Str)) = false := by decide)
    (he : backTo pos (starEach [a] X.env) = (false, eval a X.env) :: backTo pos (starEach [] X.env) := by rfl) (hpl : (backTo pos (starEach [a] X.env)).any (·.1) = false := by rfl)
    (hall : (backToKw pos (keywordEach [⟨some "key", .Name x p2, kpos⟩] X.env)).all (·.1.isSome) = true := by rfl) (hnone : (backToKw pos (keywordEach [⟨some "key", .Name x p2, kpos⟩] X.env)).any (·.1.isNone) = false := by rfl) (hks : (backToKw pos (keywordEach [⟨some "key", .Name x p2, kpos⟩] X.env)).filterMap (·.1) = [Str.ofString "key"] := by rfl) :
    SF X G W (.Call (.Name "sorted" p) [a] [⟨some "key", .Name x p2, kpos⟩] pos) (cBF (gSortK ok kd) er) := by
  obtain ⟨f, hf, turn⟩ := F.ex
  refine (pe_callBK (cr_sortK F hf (hr.mono hkj)) hg hm (by decide +kernel) ha (pk_cons (pe_glob (v := .ref f) hx hf rfl hd) pk_nil) (by decide) (by decide) he hpl hall hnone hks).conseq fun σ H Q ⟨ρ, O, δ, S, A, h⟩ => ?_
  refine ⟨ρ, O, δ, S, A, (Res.To.bind h).imp (fun ds S1 hh ρ1 vs H1 s1 A1 r1 => ?_) fun _ _ e => e⟩
  split at hh
  · rename_i zs hz
    exact ⟨rfl, ρ1, O, S1, ds, zs, A1.st, r1, hz, fun a vs na q => hh ρ1 a vs _ (s1.trans (stp_new na)) (A1.barred na) (np_back s1 A1.st na) (A1.st.free na).2 upd_same ((q.bar na).monoM (fun _ h => A1.st.mut h) (stp_new na))⟩
  · exact hh.elim
end
/-! ### the keys of keys and of cells -/
section
open PySem.W
/-- the key of a value -/
def krd (d : PyData) : PyData := if d.isStr then .tuple [.int 1, .int 0, d] else .tuple [.int 0, d, .str Str.empty]
end
def okk_key_rank (d : PyData) : Bool := match d with | .int _ => true | .str _ => true | _ => false
abbrev kd_key_rank : PyData → PyData := krd
def okk_cell_rank (d : PyData) : Bool := match d with | .tuple [.str _, .int _] => true | .tuple [.str _, .str _] => true | _ => false
def kd_cell_rank (d : PyData) : PyData := match d with
  | .tuple [.str t, k] => (match krd k with | .tuple ks => .tuple (.str t :: ks) | x => x)
  | _ => .none
end Mp

/-! Mp, part 18: instances of the program's classes: fields, methods, making, isinstance. -/
namespace Mp
open PySem PySem.Spec L2
open PyProof.Rows hiding St

theorem fldN_inj0 : ∀ i, i < NF → ∀ j, j < NF → fldN i = fldN j → i = j := by decide +kernel
theorem fldN_inj {i j : Nat} (hi : i < NF) (hj : j < NF) (e : fldN i = fldN j) : i = j := fldN_inj0 i hi j hj e
section
variable {R : V → D → Prop}
theorem ent_lookup : ∀ {fs : List (Str × V)} {gs : List (Nat × D)}, EntF R fs gs → ∀ {f : Nat}, f < NF → (∀ d, gs.lookup f = some d → ∃ v, fs.lookup (fldN f) = some v ∧ R v d) ∧ (gs.lookup f = none → fs.lookup (fldN f) = none)
  | _, _, .nil, f, _ => ⟨fun d h => by simp at h, fun _ => rfl⟩
  | _, _, @Paired.cons _ _ _ p q fs gs r t, f, hf => by
    obtain ⟨e1, e2, e3⟩ := r
    obtain ⟨x, v⟩ := p
    obtain ⟨g, d⟩ := q
    dsimp only at e1 e2 e3
    subst e1
    by_cases h : f = g
    · subst h
      refine ⟨fun d' h' => ⟨v, by simp [List.lookup], ?_⟩, fun h' => ?_⟩
      · simp [List.lookup] at h'; subst h'; exact e3
      · simp [List.lookup] at h'
    · have hb : (f == g) = false := beq_eq_false_iff_ne.mpr h
      have hb2 : (fldN f == fldN g) = false := beq_eq_false_iff_ne.mpr fun e => h (fldN_inj hf e2 e)
      simp only [List.lookup, hb, hb2]
      exact ent_lookup t hf
def putG (f : Nat) (d : D) : List (Nat × D) → List (Nat × D)
  | [] => [(f, d)]
  | (g, x) :: r => if g = f then (g, d) :: r else (g, x) :: putG f d r
theorem ent_put : ∀ {fs : List (Str × V)} {gs : List (Nat × D)}, EntF R fs gs → ∀ {f : Nat} {v : V} {d : D}, f < NF → R v d → EntF R (putF (fldN f) v fs) (putG f d gs)
  | _, _, .nil, f, v, d, hf, r => .cons ⟨rfl, hf, r⟩ .nil
  | _, _, @Paired.cons _ _ _ p q fs gs r t, f, v, d, hf, rv => by
    obtain ⟨e1, e2, e3⟩ := r
    obtain ⟨x, w⟩ := p
    obtain ⟨g, y⟩ := q
    dsimp only at e1 e2 e3
    subst e1
    unfold putF putG
    by_cases h : g = f
    · subst h
      rw [if_pos rfl, if_pos rfl]
      exact .cons ⟨rfl, hf, rv⟩ t
    · rw [if_neg h, if_neg (fun e => h (fldN_inj e2 hf e))]
      exact .cons ⟨rfl, e2, e3⟩ (ent_put t hf rv)
/-- a name that is no field -/
theorem ent_none {m : Str} (hm : ∀ i, i < NF → fldN i ≠ m) : ∀ {fs : List (Str × V)} {gs : List (Nat × D)}, EntF R fs gs → fs.lookup m = none
  | _, _, .nil => rfl
  | _, _, @Paired.cons _ _ _ p q fs gs r t => by
    obtain ⟨e1, e2, e3⟩ := r
    obtain ⟨x, v⟩ := p
    dsimp only at e1
    subst e1
    have hb : (m == fldN q.1) = false := beq_eq_false_iff_ne.mpr fun e => hm _ e2 e.symm
    simp only [List.lookup, hb]
    exact ent_none hm t
end
abbrev clsA (K : PySem.W.Frag) (c : Nat) : Addr := He.ga K (clsN c)
section
variable {K : PySem.W.Frag} {ρ O : List Addr} {H : Hp} {S : Sto} {v : V}
/-- an instance -/
theorem obj_rep {n c : Nat} {gs : List (Nat × D)} (R : RelS K ρ O H S) (r : RepV K ρ O H v (.loc n)) (h : S[n]? = some (.obj c gs)) : ∃ a dx fs, v = .ref a ∧ ρ[n]? = some a ∧ H a = some (.ins (clsA K c) dx fs) ∧ EntF (RepV K ρ O H) fs gs := by
  obtain ⟨a, rfl, hn⟩ := r.of_loc
  cases R.cell n a _ hn h with
  | obj h1 h2 => exact ⟨a, _, _, rfl, hn, h1, h2⟩
theorem put_obj {n c f : Nat} {a dx : Addr} {fs : List (Str × V)} {gs : List (Nat × D)} {y : V} {d : D} (R : RelS K ρ O H S) (hn : ρ[n]? = some a) (h1 : H a = some (.ins (clsA K c) dx fs)) (h2 : EntF (RepV K ρ O H) fs gs) (hf : f < NF) (ry : RepV K ρ O H y d) :
    RelS K ρ O (upd H a (.ins (clsA K c) dx (putF (fldN f) y fs))) (S.set n (.obj c (putG f d gs))) :=
  R.put hn (.obj upd_same (paired_imp (fun _ _ q => ⟨q.1, q.2.1, q.2.2.monoM (fun _ h => R.mut h) (stp_put hn)⟩) (ent_put h2 hf ry)))
end
/-! ### o.f -/
def gFld (cs : List Nat) (f : Nat) (S : Sto) (d : D) : Option D := match d with
  | .loc n => match S[n]? with
    | some (.obj c gs) => if cs.contains c = true then gs.lookup f else none
    | _ => none
  | _ => none
structure ClsF (K : PySem.W.Frag) (c f : Nat) : Prop where
  cl : Cls K (clsA K c)
  na : NoAttr K (clsA K c) (fldN f)
section
variable {X : Cx} {G : Glo} {W : WX} {a b o e : Expr} {ea eb eo ee : Ev} {pos : Pos} {es : List Expr} {er : Sl → Sto → Res (List D)}
theorem SE.fld {cs : List Nat} {f : Nat} {x : Str} (ha : SE X G W a ea) (hT : ∀ c ∈ cs, ClsF X.K c f) (hf : f < NF := by decide) (hx : x = fldN f := by rfl) (hb : attributeBase a x X.env (eval a X.env) = eval a X.env := by rfl) : SE X G W (.Attribute a x pos) (cUn (gFld cs f) ea) := by
  subst hx
  refine (pe_fld ha hb).conseq fun σ H Q ⟨ρ, O, δ, S, A, h⟩ => Post.run A h fun d S1 ρ1 v H1 h1 s1 A1 r1 => ?_
  unfold gFld at h1
  split at h1
  · rename_i z hz
    split at hz
    · rename_i n
      split at hz
      · rename_i c gs hS
        split at hz
        · rename_i hc
          obtain ⟨p, dx, fs, rfl, hn, hp, hE⟩ := obj_rep A1.st r1 hS
          obtain ⟨w, l1, l2⟩ := (ent_lookup hE hf).1 z hz
          have T := hT c (by simpa using hc)
          exact ⟨p, _, dx, fs, w, rfl, hp, T.cl, T.na, l1, h1 ρ1 w H1 s1 A1 l2⟩
        · cases hz
      · cases hz
    · cases hz
  · exact h1.elim
/-! ### o.f = e -/
def fldS (cs : List Nat) (f : Nat) (δ : Sl) (d x : D) (S : Sto) : Out := match x with
  | .loc n => match S[n]? with
    | some (.obj c gs) => if cs.contains c = true ∧ gs.length < 1000 then .nx δ (S.set n (.obj c (putG f d gs))) else .bad
    | _ => .bad
  | _ => .bad
def sFld' (cs : List Nat) (f : Nat) (eo ee : Ev) : EvS := fun δ S => (ee δ S).out δ fun d S1 => (eo δ S1).out δ fun x S2 => fldS cs f δ d x S2
theorem SS.fld {cs : List Nat} {f : Nat} {x : Str} {pos' : Pos} (ho : SE X G W o eo) (he : SE X G W e ee) (hT : ∀ c ∈ cs, ClsF X.K c f) (hf : f < NF := by decide) (hx : x = fldN f := by rfl) (hs : swapsWith e (some (.Attribute o x pos')) pos.line X.env = pure false := by rfl) :
    SS X G W (.Assign [.Attribute o x pos'] e pos) (sFld' cs f eo ee) := by
  subst hx
  refine (ps_fld ho he hs).conseq fun D σ H ⟨ρ, O, δ, S, A, h⟩ => Post.ofO A h fun d S1 ρ1 v H1 h1 s1 A1 r1 => Post.ofO A1 h1 fun y S2 ρ2 w H2 h2 s2 A2 r2 => ?_
  unfold fldS at h2
  split at h2
  · rename_i n
    split at h2
    · rename_i c gs hS
      split at h2
      · rename_i hc
        obtain ⟨p, dx, fs, rfl, hn, hp, hE⟩ := obj_rep A2.st r2 hS
        have T := hT c (by simpa using hc.1)
        have hl : fs.length < 1000 := by rw [Paired.length hE]; exact hc.2
        exact ⟨p, _, dx, fs, rfl, hp, T.cl, T.na, hl, h2 ρ2 σ _ (stp_put hn) (A2.of (stp_put hn) (put_obj A2.st hn hp hE hf (r1.mono A1.st s2)))⟩
      · exact h2.elim
    · exact h2.elim
  · exact h2.elim
end
/-! ### methods -/
structure DefM (P : Program) (w : World) (K : PySem.W.Frag) (mg : Str → Option Value) (base : Heap) (G : Glo) (k : Nat) (c : Nat) (m : Str) (n : Nat) (g : List D → Sto → Res D) : Prop where
  ex : ∃ f fd ps, ps.length = n ∧ FnG P w K mg base k f fd ps (spOf K G n g) ∧ Meth K (clsA K c) m f ∧ Binds K fd ps [] ∧ Cls K (clsA K c)
abbrev Mtab := Nat → Option (Nat × (List D → Sto → Res D))
def mthS (tab : Mtab) (args : Sto → Res (List D)) (x : D) (S1 : Sto) : Res D := match x with
  | .loc n => match S1[n]? with
    | some (.obj c _) => match tab c with
      | some (k, f) => (args S1).bind fun ds S2 => if ds.length + 1 = k then f (x :: ds) S2 else .bad
      | none => .bad
    | _ => .bad
  | _ => .bad
def cMth (tab : Mtab) (o : Ev) (args : Sl → Sto → Res (List D)) : Ev := fun δ S => (o δ S).bind fun x S1 => mthS tab (args δ) x S1
section
variable {X : Cx} {G : Glo} {W : WX} {a b o e : Expr} {ea eb eo ee : Ev} {pos apos : Pos} {es : List Expr} {er : Sl → Sto → Res (List D)}
theorem mth_wish {σ : St} {H : Hp} {Q : VK} {m : Str} {j : Nat} {tab : Mtab} (hm : ∀ i, i < NF → fldN i ≠ m) (hT : ∀ c n g, tab c = some (n, g) → DefM X.prog X.w X.K X.mg X.base G j c m n g) (h : Post X.K G W (cMth tab eo er) σ H Q) :
    Post X.K G W eo σ H fun x H1 => ∃ a C dx fs f fd ps n g, x = .ref a ∧ H1 a = some (.ins C dx fs) ∧ Cls X.K C ∧ Meth X.K C m f ∧ fs.lookup m = none ∧ ps.length = n ∧ FnG X.prog X.w X.K X.mg X.base j f fd ps (spOf X.K G n g) ∧ Binds X.K fd ps [] ∧
      PostA X.K G W er σ H1 fun vs H2 => spOf X.K G n g (.ref a :: vs) H2 Q (WE W σ) := by
  obtain ⟨ρ, O, δ, S, A, h⟩ := h
  refine Post.run A h fun x S1 ρ1 v H1 h1 s1 A1 r1 => ?_
  unfold mthS at h1
  split at h1
  · rename_i n
    split at h1
    · rename_i c gs hS
      split at h1
      · rename_i k g ht
        obtain ⟨p, dx, fs, rfl, hn, hp, hE⟩ := obj_rep A1.st r1 hS
        obtain ⟨f, fd, ps, l1, l2, l3, l4, l5⟩ := (hT c k g ht).ex
        refine ⟨p, _, dx, fs, f, fd, ps, k, g, rfl, hp, l5, l3, ent_none hm hE, l1, l2, l4, ρ1, O, δ, S1, A1, (Res.To.bind h1).imp (fun ds S2 hh ρ2 vs H2 s2 A2 r2 => ?_) fun _ _ e => PX.mono e s1⟩
        split at hh
        · rename_i hl
          exact sp_run (S := S) (by rw [List.length_cons, r2.ix.1, hl]) (s1.trans s2) A2 (.cons (r1.mono A1.st s2) r2) hh
        · exact hh.elim
      · exact h1.elim
    · exact h1.elim
  · exact h1.elim
theorem SE.mth {m : Str} {j k : Nat} {tab : Mtab} {pl : Sem Bool} (hgu : X.A.guards = some []) (hr : Room k X.A) (tk : Takes X W) (ho : SE X G W o eo) (ha : SA X G W (e :: es) er) (hT : ∀ c n g, tab c = some (n, g) → DefM X.prog X.w X.K X.mg X.base G j c m n g) (hjk : j ≤ k := by decide) (hm : ∀ i, i < NF → fldN i ≠ m := by decide +kernel)
    (hst : starEach (e :: es) X.env = (false, eval e X.env) :: starEach es X.env := by rfl) (hpl : (backTo pos (starEach es X.env)).any (·.1) = false := by rfl)
    (ht : eval (.Call (.Attribute o m apos) (e :: es) [] pos) X.env = (do
      let ov ← eval o X.env
      standAt apos.atName
      let (f, first) ← holding [ov] (getMethod ov m pl)
      callWith pos f first (backTo pos (starEach (e :: es) X.env)) (backToKw pos (keywordEach [] X.env))) := by rfl) :
    SE X G W (.Call (.Attribute o m apos) (e :: es) [] pos) (cMth tab eo er) := by
  refine ⟨fun pins s σ H Q I h => ?_⟩
  refine PySem.W.methodCall_KW (pl := pl) (thn (ho.run pins s σ H _ I (mth_wish hm hT h)) fun u s1 ⟨x, H1, I1, rx, p, C, dx, fs, f, fd, ps, n, g, ex, ea, c, hmt, l, hl, F, hb, q⟩ => ?_) ht
  subst ex
  obtain rfl : u = Value.ref p := rx
  refine getmeth_ok I1 ea c hmt l ?_
  refine PySem.W.callWith_K (first := [.ref p]) (h₀ := X.base) I.ok.mod.kin hmt.kp (thn (ha.run pos pins s1 σ H1 _ I1 q) fun us s2 ⟨vs, H2, I2, r, q2⟩ => ⟨I2.kIn, ?_⟩) hst hpl
  exact run_g (dvs := []) (us := .ref p :: us) (vs := .ref p :: vs) hgu F (hr.mono hjk) hb .nil (passAt tk σ) I2 (.cons rfl r) (by rw [List.append_nil]; exact q2)
theorem SE.mth0 {m : Str} {j k : Nat} {tab : Mtab} {pl : Sem Bool} (hgu : X.A.guards = some []) (hr : Room k X.A) (tk : Takes X W) (ho : SE X G W o eo) (hT : ∀ c n g, tab c = some (n, g) → DefM X.prog X.w X.K X.mg X.base G j c m n g) (hjk : j ≤ k := by decide) (hm : ∀ i, i < NF → fldN i ≠ m := by decide +kernel)
    (ht : eval (.Call (.Attribute o m apos) [] [] pos) X.env = (do
      let ov ← eval o X.env
      standAt apos.atName
      let (f, first) ← holding [ov] (getMethod ov m pl)
      callWith pos f first (backTo pos (starEach [] X.env)) (backToKw pos (keywordEach [] X.env))) := by rfl) :
    SE X G W (.Call (.Attribute o m apos) [] [] pos) (cMth tab eo cNil) := by
  refine ⟨fun pins s σ H Q I h => ?_⟩
  refine PySem.W.methodCall_KW (pl := pl) (thn (ho.run pins s σ H _ I (mth_wish hm hT h)) fun u s1 ⟨x, H1, I1, rx, p, C, dx, fs, f, fd, ps, n, g, ex, ea, c, hmt, l, hl, F, hb, ρ2, O2, δ2, S2, A2, q⟩ => ?_) ht
  subst ex
  obtain rfl : u = Value.ref p := rx
  refine getmeth_ok I1 ea c hmt l ?_
  have q' := q ρ2 [] H1 (.refl _ _) A2 .nil
  exact PySem.W.callWith_K0 (first := [.ref p]) I1.kIn hmt.kp (run_g (dvs := []) (us := [.ref p]) (vs := [.ref p]) hgu F (hr.mono hjk) hb .nil (passAt tk σ) I1 (.cons rfl .nil) q')
end
end Mp

/-! Mp, part 19: making instances, isinstance. -/
namespace Mp
open PySem PySem.Spec L2
open PyProof.Rows hiding St

theorem under_guards {A : Around} {args : Args} (h : A.guards = some []) : (A.under (.builtin "type.__call__" args)).guards = some [] := by
  have e : (Code.builtin "type.__call__" args).guards = [] := by first | rfl | exact Code.guards_of_weight rfl | decide +kernel
  show pushGuards (Code.builtin "type.__call__" args).guards A.guards = some []
  rw [e, h]; rfl
/-- a new instance: the def's meaning on it -/
def mkS (c : Nat) (f : List D → Sto → Res D) (ds : List D) (S1 : Sto) : Res D := match f (.loc S1.length :: ds) (S1 ++ [.obj c []]) with
  | .ok .non S2 => .ok (.loc S1.length) S2
  | .exc x S2 => .exc x S2
  | _ => .bad
def cMake (c n : Nat) (f : List D → Sto → Res D) (dds : List D) (args : Sl → Sto → Res (List D)) : Ev := fun δ S => (args δ S).bind fun ds S1 => if (ds ++ dds).length + 1 = n then mkS c f (ds ++ dds) S1 else .bad
structure DefMk (P : Program) (w : World) (K : PySem.W.Frag) (mg : Str → Option Value) (base : Heap) (G : Glo) (k : Nat) (c : Nat) (x : Str) (n : Nat) (dds : List D) (g : List D → Sto → Res D) : Prop where
  ex : ∃ f fd ps dvs dus, ps.length = n ∧ FnG P w K mg base k f fd ps (spOf K G n g) ∧ Mk K (clsA K c) f ∧ Binds K fd ps dus ∧ Vals dvs dus ∧ Paired RepC dvs dds ∧ mg x = some (.ref (clsA K c))
section
variable {X : Cx} {G : Glo} {W : WX} {a b o e : Expr} {ea eb eo ee : Ev} {pos apos : Pos} {es : List Expr} {er : Sl → Sto → Res (List D)}
theorem run_makeG {C : Addr} {f : Addr} {fd : FuncData} {ps : List Str} {sp : Sp} {k : Nat} {E : XK} {pins : List (Addr × Obj)} {σ : St} {H : Hp} {s : Shared} {Q : VK} {us dus : List Value} {vs dvs : List V} (hgu : X.A.guards = some []) (M : Mk X.K C f) (F : FnG X.prog X.w X.K X.mg X.base k f fd ps sp) (hr : Room (k + 1) X.A) (hb : Binds X.K fd ps dus) (hd : Vals dvs dus)
    (hx : PassesAt (L2.CX X.prog X.w) X σ E) (I : Inv X pins σ H s) (r : Vals vs us)
    (h : ∀ x dx, H x = none → H dx = none → dx ≠ x → sp (.ref x :: (vs ++ dvs)) (upd (upd H dx (.own x)) x (.ins C dx [])) (fun v H2 => v = .non ∧ Q (.ref x) H2) E) :
    wpAny (model X.prog X.w) X.A (call (.ref C) us) (EP X pins σ Q) X.xe s := by
  have hq := h (s.heap.objs.size + 1) s.heap.objs.size (I.hok.fresh (Nat.le_succ _)) (I.hok.fresh (Nat.le_refl _)) (Nat.ne_of_lt (Nat.lt_succ_self _))
  have I2 := Inv.made (C := C) I
  have r2 : Vals (V.ref (s.heap.objs.size + 1) :: (vs ++ dvs)) (Value.ref (s.heap.objs.size + 1) :: (us ++ dus)) := .cons rfl (r.append hd)
  have hl : (Value.ref (s.heap.objs.size + 1) :: us ++ dus).length = ps.length := by
    have e := r2.length
    rw [F.ln _ _ _ _ hq] at e
    exact e.symm
  refine wpAny_call (make_map (f := f) I.kIn M.makes M.init (beq_iff_eq.mp M.fn) (codeAny_mono (F.go _ X.stack _ _ ⟨Value.ref (s.heap.objs.size + 1) :: us, []⟩ (Value.ref (s.heap.objs.size + 1) :: (us ++ dus)) _ _ E (under_guards hgu) (hr.make C us [])
    (I2.env0.make C us []) (hb _ (Value.ref (s.heap.objs.size + 1) :: us) I2.kIn hl) r2 hq) fun r s' hq' => ?_))
  cases r with
  | error e => exact hx pins _ _ e s' I2 hq'
  | ok fl =>
    cases fl with
    | ret u =>
      obtain ⟨v, H', I3, rv, ev, q3⟩ := I2.after hq'
      subst ev
      exact ⟨rv, ⟨V.ref (s.heap.objs.size + 1), H', I3, rfl, q3⟩⟩
    | next => exact False.elim hq'
    | brk => exact False.elim hq'
    | cont => exact False.elim hq'
theorem sp_make {c n : Nat} {g : List D → Sto → Res D} {ρ ρ1 O : List Addr} {σ : St} {H H1 : Hp} {δ : Sl} {S S1 : Sto} {vs : List V} {ds : List D} {Q : VK} (hn : vs.length + 1 = n) (s1 : Stp ρ H ρ1 H1) (A1 : RelA X.K G ρ1 O σ H1 δ S1) (r1 : RepL X.K ρ1 O H1 vs ds)
    (h : (mkS c g ds S1).To (PV X.K G ρ O σ H δ Q) (PX X.K G W ρ O σ H δ)) {x dx : Addr} (nx : H1 x = none) (ndx : H1 dx = none) (hne : dx ≠ x) :
    spOf X.K G n g (.ref x :: vs) (upd (upd H1 dx (.own x)) x (.ins (clsA X.K c) dx [])) (fun v H2 => v = .non ∧ Q (.ref x) H2) (WE W σ) := by
  have nx' : (upd H1 dx (.own x)) x = none := by rw [upd_ne hne.symm]; exact nx
  have A2 := A1.of (stp_new (o := .own x) ndx) (A1.st.new ndx)
  have A3 := A2.barred (o := .ins (clsA X.K c) dx []) nx'
  have A4 := A3.shift (c := .obj c []) (.obj upd_same .nil) (A2.st.free nx').2
  have s4 : Stp ρ1 H1 (ρ1 ++ [x]) (upd (upd H1 dx (.own x)) x (.ins (clsA X.K c) dx [])) := stp_shift ((stp_new ndx).trans (stp_new nx')) nx
  have r4 := r1.mono A1.st s4
  have hget : (ρ1 ++ [x])[S1.length]? = some x := by rw [← A1.st.len]; simp
  refine ⟨by rw [List.length_cons, hn], ρ1 ++ [x], O, .loc S1.length :: ds, S1 ++ [.obj c []], A4.st, .cons (.loc hget) r4, ?_⟩
  unfold mkS at h
  generalize g (.loc S1.length :: ds) (S1 ++ [.obj c []]) = res at h
  cases res with
  | ok d S2 =>
    cases d with
    | non => exact fun ρ2 v H2 s2 R2 r2 => ⟨by cases r2; rfl, h ρ2 (.ref x) H2 (s1.trans (s4.trans s2)) (A1.of (s4.trans s2) R2) (.loc (s2.get hget))⟩
    | _ => exact h.elim
  | exc y S2 => exact fun ρ2 cls dd H2 s2 R2 r2 => h ρ2 cls dd H2 (s1.trans (s4.trans s2)) (A1.of (s4.trans s2) R2) r2
  | bad => exact h.elim
theorem SE.make {c n j k : Nat} {x : Str} {dds : List D} {g : List D → Sto → Res D} {p : Pos} (F : DefMk X.prog X.w X.K X.mg X.base G j c x n dds g) (hgu : X.A.guards = some []) (hr : Room k X.A) (tk : Takes X W) (ha : SA X G W (a :: es) er) (hjk : j + 1 ≤ k := by decide) (hg : Gl X x := by rfl) (hdb : (x == ("__debug__" : Str)) = false := by decide)
    (he : starEach (a :: es) X.env = (false, eval a X.env) :: starEach es X.env := by rfl) (hpl : (backTo pos (starEach es X.env)).any (·.1) = false := by rfl) :
    SE X G W (.Call (.Name x p) (a :: es) [] pos) (cMake c n g dds er) := by
  obtain ⟨f, fd, ps, dvs, dus, hl, F, M, hb, hd, hdd, hm⟩ := F.ex
  refine ⟨fun pins s σ H Q I ⟨ρ, O, δ, S, A, h⟩ => wpAny_Call_Name_kw (ld_glob I hg hm ?_ hdb)⟩
  refine PySem.W.callWith_K (h₀ := X.base) I.ok.mod.kin M.kp (thn (ha.run pos pins s σ H (fun vs H1 => ∀ x dx, H1 x = none → H1 dx = none → dx ≠ x → spOf X.K G n g (.ref x :: (vs ++ dvs)) (upd (upd H1 dx (.own x)) x (.ins (clsA X.K c) dx [])) (fun v H2 => v = .non ∧ Q (.ref x) H2) (WE W σ)) I ?_) fun us s1 ⟨vs, H1, I1, r, q⟩ => ⟨I1.kIn, run_makeG hgu M F (hr.mono hjk) hb hd (passAt tk σ) I1 r q⟩) he hpl
  refine ⟨ρ, O, δ, S, A, (Res.To.bind h).imp (fun ds S1 hh ρ1 vs H1 s1 A1 r1 => ?_) fun _ _ e => e⟩
  split at hh
  · rename_i hl2
    have rr := r1.append (RepC.reps hdd (K := X.K) (ρ := ρ1) (O := O) (H := H1))
    exact fun y dy ny ndy hne => sp_make (S := S) (by rw [rr.ix.1, hl2]) s1 A1 rr hh ny ndy hne
  · exact hh.elim
theorem SE.make0 {c n j k : Nat} {x : Str} {dds : List D} {g : List D → Sto → Res D} {p : Pos} (F : DefMk X.prog X.w X.K X.mg X.base G j c x n dds g) (hgu : X.A.guards = some []) (hr : Room k X.A) (tk : Takes X W) (hjk : j + 1 ≤ k := by decide) (hg : Gl X x := by rfl) (hdb : (x == ("__debug__" : Str)) = false := by decide) :
    SE X G W (.Call (.Name x p) [] [] pos) (cMake c n g dds cNil) := by
  obtain ⟨f, fd, ps, dvs, dus, hl, F, M, hb, hd, hdd, hm⟩ := F.ex
  refine ⟨fun pins s σ H Q I ⟨ρ, O, δ, S, A, h⟩ => wpAny_Call_Name_kw (ld_glob I hg hm ?_ hdb)⟩
  have rr := RepC.reps hdd (K := X.K) (ρ := ρ) (O := O) (H := H)
  have h' : (if ([] ++ dds).length + 1 = n then mkS c g ([] ++ dds) S else .bad).To (PV X.K G ρ O σ H δ Q) (PX X.K G W ρ O σ H δ) := h
  split at h'
  · rename_i hl2
    exact PySem.W.callWith_K0 I.kIn M.kp (run_makeG (us := []) (vs := []) hgu M F (hr.mono hjk) hb hd (passAt tk σ) I .nil fun y dy ny ndy hne => sp_make (S := S) (by show dvs.length + 1 = n; rw [rr.ix.1]; exact hl2) (.refl _ _) A rr h' ny ndy hne)
  · exact h'.elim
end
/-! ### isinstance, instances too -/
inductive TT where
  | b (t : Ty) | o (c : Nat)
def TT.val (K : PySem.W.Frag) : TT → Value
  | .b t => .type t.nm
  | .o c => .ref (clsA K c)
def tyO (S : Sto) (d : D) : Option TT := match d with
  | .loc n => match S[n]? with
    | some (.obj c _) => some (.o c)
    | _ => (tyD S d).map .b
  | _ => (tyD S d).map .b
def gIsX (tab : TT → Option Bool) (S : Sto) (d : D) : Option D := (tyO S d).bind fun t => (tab t).map .bl
/-- what isinstance asks of an instance's class -/
structure InsF (K : PySem.W.Frag) (c : Nat) : Prop where
  cl : Cls K (clsA K c)
  ha : PySem.W.findIn K (.ref (clsA K c)) "__class__" = some (some (.builtin "object.__class__"))
  hn : PySem.W.specialIn K (.builtin "object.__class__") "__get__" = some (some (.builtin "getset_descriptor.__get__"))
  ht : PySem.W.takesIn K (.builtin "object.__class__") = some true
  hm : PySem.W.mroIn K (clsA K c) (.type "object") = some true
theorem tyO_of {K : PySem.W.Frag} {ρ O : List Addr} {H : Hp} {S : Sto} {x : V} {d : D} {t : TT} (R : RelS K ρ O H S) (r : RepV K ρ O H x d) (h : tyO S d = some t) (hI : ∀ c, t = .o c → InsF K c) : TyX K H x (t.val K) := by
  have old : ∀ {t}, (tyD S d).map TT.b = some t → TyX K H x (t.val K) := fun {t} h => by
    cases e : tyD S d with
    | none => rw [e] at h; cases h
    | some u => rw [e] at h; cases h; exact tyX_of R r e
  unfold tyO at h
  split at h
  · rename_i n
    split at h
    · rename_i c gs hS
      cases h
      obtain ⟨a, dx, fs, rfl, hn, hp, hE⟩ := obj_rep R r hS
      have T := hI c rfl
      exact .base (.ins hp T.cl T.ha T.hn T.ht T.hm)
    · exact old h
  · exact old h
section
variable {X : Cx} {G : Glo} {W : WX} {a : Expr} {ea : Ev} {pos : Pos}
/-- isinstance(e, C) -/
theorem Q.isx (tab : TT → Option Bool) {x : Str} {p p2 : Pos} {cv : V} {u : Value} (hm : X.mg "isinstance" = none) (hcls : PE X (.Name x p2) (tC cv)) (hcv : ClsV cv u) (hk : ∀ t k, tab t = some k → PySem.W.kitOne X.K (t.val X.K) u = some k) (hI : ∀ c, (tab (.o c)).isSome = true → InsF X.K c) (ha : SE X G W a ea) (hg : Gl X "isinstance" := by rfl)
    (he : starEach [a, .Name x p2] X.env = (false, eval a X.env) :: starEach [.Name x p2] X.env := by rfl) (he2 : starEach [.Name x p2] X.env = (false, eval (.Name x p2) X.env) :: starEach [] X.env := by rfl) (hpl : (backTo pos (starEach [.Name x p2] X.env)).any (·.1) = false := by rfl) :
    SE X G W (.Call (.Name "isinstance" p) [a, .Name x p2] [] pos) (cUn (gIsX tab) ea) :=
  (pe_callB call_isi hg hm (by decide +kernel) (pa_cons ha (pa_cons hcls pa_nil he2) he) (by decide) (by decide) he hpl).conseq fun σ H Q ⟨ρ, O, δ, S, A, h⟩ =>
    Post.run A h fun d S1 ρ1 v H1 h1 s1 A1 r1 => by
      unfold gIsX at h1
      cases e : tyO S1 d with
      | none => rw [e] at h1; exact h1.elim
      | some t =>
        rw [e] at h1
        cases e2 : tab t with
        | none => simp only [Option.bind, e2] at h1; exact h1.elim
        | some k =>
          simp only [Option.bind, e2] at h1
          exact ⟨v, cv, _, u, k, rfl, hcv, tyO_of A1.st r1 e (fun c hc => hI c (by rw [← hc, e2]; rfl)), hk t k e2, h1 ρ1 _ H1 s1 A1 (.bl _)⟩
/-- isinstance(e, (T, U)), two built-in types -/
theorem Q.isx2 (tab : TT → Option Bool) {x y : Str} {p p2 p3 p4 : Pos} {kt : Nat} {cv cw : V} {u u' : Value} (hm : X.mg "isinstance" = none) (hcls : PE X (.Name x p2) (tC cv)) (hcls' : PE X (.Name y p3) (tC cw)) (hcv : ClsV cv u) (hcw : ClsV cw u') (hk : ∀ t k, tab t = some k → PySem.W.kitAny X.K (t.val X.K) [u, u'] = some k) (hI : ∀ c, (tab (.o c)).isSome = true → InsF X.K c) (ha : SE X G W a ea) (hg : Gl X "isinstance" := by rfl)
    (he : starEach [a, .Tuple [.Name x p2, .Name y p3] kt p4] X.env = (false, eval a X.env) :: starEach [.Tuple [.Name x p2, .Name y p3] kt p4] X.env := by rfl)
    (he2 : starEach [.Tuple [.Name x p2, .Name y p3] kt p4] X.env = (false, eval (.Tuple [.Name x p2, .Name y p3] kt p4) X.env) :: starEach [] X.env := by rfl) (hpl : (backTo pos (starEach [.Tuple [.Name x p2, .Name y p3] kt p4] X.env)).any (·.1) = false := by rfl)
    (hs1 : starEach [.Name x p2, .Name y p3] X.env = (false, eval (.Name x p2) X.env) :: starEach [.Name y p3] X.env := by rfl) (hs2 : starEach [.Name y p3] X.env = (false, eval (.Name y p3) X.env) :: starEach [] X.env := by rfl) :
    SE X G W (.Call (.Name "isinstance" p) [a, .Tuple [.Name x p2, .Name y p3] kt p4] [] pos) (cUn (gIsX tab) ea) :=
  (pe_callB call_isiT hg hm (by decide +kernel) (pa_cons ha (pa_cons (pe_tup (pa_cons hcls (pa_cons hcls' pa_nil hs2) hs1)) pa_nil he2) he) (by decide) (by decide) he hpl).conseq fun σ H Q ⟨ρ, O, δ, S, A, h⟩ =>
    Post.run A h fun d S1 ρ1 v H1 h1 s1 A1 r1 => by
      unfold gIsX at h1
      cases e : tyO S1 d with
      | none => rw [e] at h1; exact h1.elim
      | some t =>
        rw [e] at h1
        cases e2 : tab t with
        | none => simp only [Option.bind, e2] at h1; exact h1.elim
        | some k =>
          simp only [Option.bind, e2] at h1
          refine ⟨by show 2 ≤ sizeLine; decide, fun p np => ?_⟩
          exact ⟨v, p, _, _, _, _, rfl, upd_same, .cons hcv (.cons hcw .nil), tyO_of (A1.st.new np) (r1.mono A1.st (stp_new np)) e (fun c hc => hI c (by rw [← hc, e2]; rfl)), hk t k e2, h1 ρ1 _ _ (s1.trans (stp_new np)) (A1.of (stp_new np) (A1.st.new np)) (.bl _)⟩
end
end Mp

/-! Mp, part 20: dict displays, texts of dicts, list + list anew, three names at once, caught exceptions asked for their classes. -/
namespace Mp
open PySem PySem.Spec L2
open PyProof.Rows hiding St

/-! ### data as trees, dicts too -/
def keyP : D → Option PyData
  | .int i => some (.int i)
  | .str x => some (.str (tx x))
  | _ => none
def mapE (f : D → Option PyData) : List (D × D) → Option (List (PyData × PyData))
  | [] => some []
  | p :: r => match keyP p.1, f p.2, mapE f r with
    | some a, some b, some c => some ((a, b) :: c)
    | _, _, _ => none
def treeX (S : Sto) : Nat → D → Option PyData
  | _, .non => some .none
  | _, .bl b => some (.bool b)
  | _, .int i => some (.int i)
  | _, .str x => some (.str (tx x))
  | n + 1, .tup ds => (mapO (treeX S n) ds).map .tuple
  | n + 1, .lst ds => (mapO (treeX S n) ds).map .list
  | n + 1, .loc m => match S[m]? with
    | some (.lst ds) => (mapO (treeX S n) ds).map .list
    | some (.dct false false kvs) => (mapE (treeX S n) kvs).map .dict
    | _ => none
  | _, _ => none
section
variable {X : Cx} {pins : List (Addr × Obj)} {σ : St} {H : Hp} {s : Shared} {ρ O : List Addr} {S : Sto}
theorem nosys (I : Inv X pins σ H s) (hs : (X.K.lookup sysModules).isSome = true) {a : Addr} {o : HO} (h : H a = some o) : a ≠ sysModules := by
  obtain ⟨ob, e⟩ := Option.isSome_iff_exists.mp hs
  intro q; subst q
  have := (I.bs _ _ (I.mod.kin _ _ e)).2
  rw [this] at h; cases h
def RdX (h : Heap) (u : Value) (t : PyData) : Prop := ∃ as, Reads h u t as ∧ sysModules ∉ as
def RdXs (h : Heap) (us : List Value) (ts : List PyData) : Prop := ∃ as, ReadsAll h us ts as ∧ sysModules ∉ as
theorem RdXs.cons {h : Heap} {u : Value} {t : PyData} {us : List Value} {ts : List PyData} (a : RdX h u t) (b : RdXs h us ts) : RdXs h (u :: us) (t :: ts) := by
  obtain ⟨as, r, n⟩ := a
  obtain ⟨bs, r', n'⟩ := b
  exact ⟨as ++ bs, .cons r r', fun q => (List.mem_append.mp q).elim n n'⟩
theorem mapO_rdx {h : Heap} (f : D → Option PyData) (hf : ∀ (v : V) (d : D) (t : PyData) (u : Value), RepV X.K ρ O H v d → f d = some t → RelV v u → RdX h u t) : ∀ (vs : List V) (ds : List D) (ts : List PyData) (us : List Value), RepL X.K ρ O H vs ds → mapO f ds = some ts → Vals vs us → RdXs h us ts
  | _, _, _, _, .nil, e, r => by cases e; cases r; exact ⟨[], .nil, by simp⟩
  | _, _, _, _, .cons a b, e, r => by
    unfold mapO at e
    split at e
    · rename_i t1 ts1 e1 e2
      cases e
      cases r with
      | cons r1 r2 => exact RdXs.cons (hf _ _ _ _ a e1 r1) (mapO_rdx f hf _ _ _ _ b e2 r2)
    · cases e
theorem rdx_list (I : Inv X pins σ H s) (hs : (X.K.lookup sysModules).isSome = true) {a : Addr} {vs : List V} {ts : List PyData} (h : H a = some (.lst vs)) (k : ∀ us, Vals vs us → RdXs s.heap us ts) : RdX s.heap (.ref a) (.list ts) := by
  obtain ⟨its, rv, ⟨o, n, ho, hc, _, hd⟩, _⟩ := I.list (.of h)
  obtain ⟨as, hr, hn⟩ := k _ rv
  refine ⟨_, Reads.list ho hc hd hr, fun q => ?_⟩
  rcases List.mem_cons.mp q with q | q
  · exact nosys I hs h q.symm
  · exact hn q
theorem rdx_dict (f : D → Option PyData) (I : Inv X pins σ H s) (hs : (X.K.lookup sysModules).isSome = true) (hf : ∀ (v : V) (d : D) (t : PyData) (u : Value), RepV X.K ρ O H v d → f d = some t → RelV v u → RdX s.heap u t) {a : Addr} {es : List (Key × V)} {kvs : List (D × D)} {ts : List (PyData × PyData)}
    (h : H a = some (.dK es)) (r : EntK (RepV X.K ρ O H) es kvs) (e : mapE f kvs = some ts) : RdX s.heap (.ref a) (.dict ts) := by
  obtain ⟨z, hd, vs, rel, o, ens, ep, ho, hx, hdat, _, hp, _⟩ := dk_of I.hok h
  have key : ∀ {ens : List DictEntry} {vs : List (Key × Value)} {es : List (Key × V)} {kvs : List (D × D)} {ts : List (PyData × PyData)}, Pairs (mixKind X.prog X.w) ens vs → KV es vs → EntK (RepV X.K ρ O H) es kvs → mapE f kvs = some ts →
      RdXs s.heap (ens.map (·.key)) (ts.map (·.1)) ∧ RdXs s.heap (ens.map (·.val)) (ts.map (·.2)) := by
    intro ens vs es kvs ts hp
    induction hp generalizing es kvs ts with
    | nil =>
      intro rel r e
      cases rel; cases r; cases e
      exact ⟨⟨[], .nil, by simp⟩, ⟨[], .nil, by simp⟩⟩
    | @cons en kv ens kvs' hk hv hp ih =>
      intro rel r e
      cases rel with
      | @cons p q ps qs h1 t1 =>
        cases r with
        | @cons p' q' ps' qs' h2 t2 =>
          unfold mapE at e
          split at e
          · rename_i x1 x2 x3 e1 e2 e3
            cases e
            obtain ⟨ih1, ih2⟩ := ih t1 t2 e3
            obtain ⟨hk1, hr1⟩ := h1
            obtain ⟨hk2, hr2⟩ := h2
            refine ⟨RdXs.cons (u := en.key) (t := x1) ?_ ih1, RdXs.cons (u := en.val) (t := x2) ?_ ih2⟩
            · rw [← hk1] at hk
              obtain ⟨d1, d2⟩ := q'
              dsimp only at e1 hk2
              rcases keyIs_shape hk with ⟨i, t, e4, e5⟩ | ⟨z, t, e4, e5⟩
              · rw [e4] at hk2
                cases d1 <;> simp only [keyD, keyP] at hk2 e1 <;> first | cases hk2 | skip
                · cases e1; rw [e5]; exact ⟨[], .int _ _, by simp⟩
              · rw [e4] at hk2
                cases d1 <;> simp only [keyD, keyP] at hk2 e1 <;> first | cases hk2 | skip
                · cases e1; rw [e5]; exact ⟨[], .str _ _, by simp⟩
            · rw [hv]; exact hf _ _ _ _ hr2 e2 (by have := hr1; exact this)
          · cases e
  obtain ⟨⟨as, r1, n1⟩, ⟨bs, r2, n2⟩⟩ := key hp rel r e
  refine ⟨_, Reads.dict ho hx.1 hdat r1 r2, fun q => ?_⟩
  rcases List.mem_append.mp q with q | q
  · rcases List.mem_cons.mp q with q | q
    · exact nosys I hs h q.symm
    · exact n1 q
  · exact n2 q
theorem treeX_rdx (I : Inv X pins σ H s) (hs : (X.K.lookup sysModules).isSome = true) (R : RelS X.K ρ O H S) : ∀ (n : Nat) (v : V) (d : D) (t : PyData) (u : Value), RepV X.K ρ O H v d → treeX S n d = some t → RelV v u → RdX s.heap u t
  | n, v, .non, t, u, r, h, q => by cases n <;> (cases h; cases r; cases q; exact ⟨[], .none, by simp⟩)
  | n, v, .bl b, t, u, r, h, q => by cases n <;> (cases h; cases r; cases q; exact ⟨[], .bool b, by simp⟩)
  | n, v, .int i, t, u, r, h, q => by cases n <;> (cases h; cases r; obtain ⟨t, rfl⟩ := q; exact ⟨[], .int i t, by simp⟩)
  | n, v, .str x, t, u, r, h, q => by cases n <;> (cases h; cases r; obtain ⟨t, rfl⟩ := q; exact ⟨[], .str _ t, by simp⟩)
  | 0, v, .tup ds, t, u, r, h, q => by cases h
  | 0, v, .lst ds, t, u, r, h, q => by cases h
  | 0, v, .loc ds, t, u, r, h, q => by cases h
  | 0, v, .scr ds, t, u, r, h, q => by cases h
  | n + 1, v, .scr ds, t, u, r, h, q => by cases h
  | 0, v, .exn _ _ _, t, u, r, h, q => by cases h
  | n + 1, v, .exn _ _ _, t, u, r, h, q => by cases h
  | n + 1, v, .tup ds, t, u, r, h, q => by
    obtain ⟨a, vs, rfl, h1, rl⟩ := r.of_tup
    have h' : (mapO (treeX S n) ds).map PyData.tuple = some t := h
    cases e : mapO (treeX S n) ds with
    | none => rw [e] at h'; cases h'
    | some ts =>
      rw [e] at h'; cases h'; cases q
      obtain ⟨its, rv, ⟨o, ho, hc, n', hd⟩, _⟩ := I.tuple h1
      obtain ⟨as, hr, hn⟩ := mapO_rdx (h := s.heap) _ (treeX_rdx I hs R n) _ _ _ _ rl e rv
      exact ⟨_, Reads.tuple ho hc hd hr, hn⟩
  | n + 1, v, .lst ds, t, u, r, h, q => by
    obtain ⟨a, vs, rfl, h1, _, _, rl⟩ := r.of_lst
    have h' : (mapO (treeX S n) ds).map PyData.list = some t := h
    cases e : mapO (treeX S n) ds with
    | none => rw [e] at h'; cases h'
    | some ts =>
      rw [e] at h'; cases h'; cases q
      exact rdx_list I hs h1 fun us rv => mapO_rdx (h := s.heap) _ (treeX_rdx I hs R n) _ _ _ _ rl e rv
  | n + 1, v, .loc m, t, u, r, h, q => by
    have h' : (match S[m]? with | some (.lst ds) => (mapO (treeX S n) ds).map PyData.list | some (.dct false false kvs) => (mapE (treeX S n) kvs).map .dict | _ => none) = some t := h
    obtain ⟨a, rfl, ha⟩ := r.of_loc
    cases q
    split at h'
    · rename_i ds hS
      have c := R.cell m a _ ha hS
      cases c with
      | lst h1 rl =>
        cases e : mapO (treeX S n) ds with
        | none => rw [e] at h'; cases h'
        | some ts =>
          rw [e] at h'; cases h'
          exact rdx_list I hs h1 fun us rv => mapO_rdx (h := s.heap) _ (treeX_rdx I hs R n) _ _ _ _ rl e rv
    · rename_i kvs hS
      have c := R.cell m a _ ha hS
      cases c with
      | dK h1 re =>
        cases e : mapE (treeX S n) kvs with
        | none => rw [e] at h'; cases h'
        | some ts =>
          rw [e] at h'; cases h'
          exact rdx_dict (treeX S n) I hs (treeX_rdx I hs R n) h1 re e
    · cases h'
end

/-! ### repr, dicts too -/
def okX (t : PyData) : Bool := t.showable && decide (t.depth ≤ 64) && decide (t.shown.length ≤ 1000000)
def gReprX (S : Sto) (d : D) : Option D := match treeX S 60 d with
  | some t => if okX t = true then some (.str (shownL t)) else none
  | none => none
section
variable {X : Cx}
theorem repr_rdx {v : Value} {t : PyData} {A : Around} {E : Value → Shared → Prop} {s : Shared} {Q : Value → Shared → Prop} (r : RdX s.heap v t) (ok : okX t = true) (hg : A.guards = some []) (hu : A.units + 70 < cLine)
    (h : ∀ h' u tk, (∀ b o, s.heap.get? b = some o → h'.get? b = some o) → Q (.str t.shown u) { s with heap := h', toks := tk }) : wpAny (model X.prog X.w) A (call (.builtin "repr") [v]) Q E s := by
  unfold okX at ok
  rw [Bool.and_eq_true, Bool.and_eq_true] at ok
  obtain ⟨⟨h1, h2⟩, h3⟩ := ok
  have hd := of_decide_eq_true h2
  have hz : t.shown.length ≤ sizeLine := LIM_le (of_decide_eq_true h3)
  obtain ⟨as, r, hn⟩ := r
  cases r with
  | none => exact PySem.P.repr_of_none (h s.heap _ _ fun _ _ e => e)
  | bool b => exact PySem.P.repr_of_bool (by
      have q := h s.heap s.toks (s.toks + 1) fun _ _ e => e
      simpa only [PyData.shown] using q)
  | int i t =>
    refine PySem.P.repr_of_int (by simpa [PyData.showable] using h1) ?_
    have q := h s.heap s.toks (s.toks + 1) fun _ _ e => e
    simpa only [PyData.shown] using q
  | str x t =>
    refine PySem.P.repr_of_str ?_ (by simpa only [PyData.shown] using hz)
    have q := h s.heap s.toks (s.toks + 1) fun _ _ e => e
    simpa only [PyData.shown] using q
  | list h4 h5 h6 h7 => exact repr_of_reads' (.list h4 h5 h6 h7) h1 (fun _ => hn) hg (by omega) (fun _ _ e => e) h hz
  | tuple h4 h5 h6 h7 => exact repr_of_reads' (.tuple h4 h5 h6 h7) h1 (fun _ => hn) hg (by omega) (fun _ _ e => e) h hz
  | dict h4 h5 h6 h7 h8 => exact repr_of_reads' (.dict h4 h5 h6 h7 h8) h1 (fun _ => hn) hg (by omega) (fun _ _ e => e) h hz
theorem cr_reprX (hs : (X.K.lookup sysModules).isSome = true) (hg : X.A.guards = some []) (hu : X.A.units + 70 < cLine) : CallR X (.builtin "repr") (rC X.K (g1 gReprX)) := cr_one fun pins s σ H x u Q ρ O S d e I ru R r1 hz k => by
  unfold gReprX at hz
  split at hz
  · rename_i t ht
    split at hz
    · rename_i ok
      cases hz
      refine repr_rdx (treeX_rdx I hs R _ _ _ _ _ r1 ht ru) ok hg hu fun h' tk' t' keep => ⟨.str (tx (shownL t)), H, I.kept keep, ⟨_, by rw [← str_shown]⟩, k _ (.str _)⟩
    · cases hz
  · cases hz
end

/-! ### {k: v, ..} -/
def dctOf : List (D × D) → Option (List (Key × D))
  | [] => some []
  | p :: r => match keyD p.1, dctOf r with
    | some k, some ks => some ((k, p.2) :: ks)
    | _, _ => none
def keyBack : Key → D
  | .inl i => .int i
  | .inr x => .str x.cps.toList
/-- one pair more, or a new value -/
def putD (kvs : List (D × D)) (k : Key) (kd v : D) : List (D × D) := if kvs.any (fun p => keyD p.1 = some k) then kvs.map (fun p => if keyD p.1 = some k then (p.1, v) else p) else kvs ++ [(kd, v)]
section
variable {X : Cx} {G : Glo} {W : WX} {a b c : Expr} {ea eb ec : Ev} {pos : Pos}
theorem ExcR.unbar' {K : PySem.W.Frag} {ρ O O' : List Addr} {H : Hp} {cls : Value} {dd : Option Addr} {x : Exn} (h : ∀ a ∈ O', a ∈ O) (r : ExcR K G ρ O H cls dd x) : ExcR K G ρ O' H cls dd x := by
  obtain ⟨h1, h2⟩ := r
  refine ⟨h1, ?_⟩
  cases e : x.v with
  | none => rw [e] at h2; exact h2
  | some d =>
    rw [e] at h2
    obtain ⟨a, v, h3, h4, h5⟩ := h2
    exact ⟨a, v, h3, h4, h5.unbar h⟩
theorem PX.unbar' {K : PySem.W.Frag} {ρ O O' : List Addr} {σ : St} {H : Hp} {δ : Sl} {x : Exn} {S : Sto} (h : ∀ a ∈ O, a ∈ O') (e : PX K G W ρ O σ H δ x S) : PX K G W ρ O' σ H δ x S :=
  fun ρ' cls dd H' s A r => e ρ' cls dd H' s (A.unbar h) (r.unbar' h)
/-- {} -/
def cDct0 (T : Bool) : Ev := fun _ S => .ok (.loc S.length) (S ++ [.dct false T []])
theorem SE.dct0 : SE X G W (.Dict [] [] pos) (cDct0 false) :=
  pe_dnewK.conseq fun σ H Q ⟨ρ, O, δ, S, A, h⟩ p np => by
    have h : PV X.K G ρ O σ H δ Q (.loc S.length) (S ++ [.dct false false []]) := h
    refine h (ρ ++ [p]) _ _ (stp_shift (stp_new np) np) ((A.barred np).shift (.dK upd_same .nil) (A.st.free np).2) (.loc ?_)
    rw [← A.st.len]; simp
/-- {k: v}, one pair -/
def cDct1 (k v : Ev) : Ev := fun δ S => (k δ S).bind fun x S1 => (v δ S1).bind fun y S2 => match keyD x with
  | some _ => .ok (.loc S2.length) (S2 ++ [.dct false false [(x, y)]])
  | none => .bad
theorem keyD_rep {K : PySem.W.Frag} {ρ O : List Addr} {H : Hp} {v : V} {d : D} {k : Key} (r : RepV K ρ O H v d) (h : keyD d = some k) : v = kV k := by
  cases d with
  | int i => cases h; cases r; rfl
  | str x => cases h; cases r; rfl
  | _ => cases h
theorem SE.dct1 {k v : Expr} {ek ev : Ev} (hk : SE X G W k ek) (hv : SE X G W v ev) : SE X G W (.Dict [some k] [v] pos) (cDct1 ek ev) :=
  (pe_disp (pps_cons hk hv pps_nil) rfl rfl (by simp) (by simp)).conseq fun σ H Q ⟨ρ, O, δ, S, A, h⟩ p np => by
    have A0 := A.barred (o := .dK []) np
    have nO := (A.st.free np).2
    have nρ := (A.st.free np).1
    show Post X.K G W ek σ _ _
    refine ⟨ρ, p :: O, δ, S, A0, (Res.To.bind h).imp (fun x S1 h1 ρ1 vx H1 s1 A1 r1 => ?_) fun _ _ e => ?_⟩
    · refine ⟨ρ1, p :: O, δ, S1, A1, (Res.To.bind h1).imp (fun y S2 h2 ρ2 vy H2 s2 A2 r2 => ?_) fun _ _ e => ?_⟩
      · cases hk' : keyD x with
        | none => rw [hk'] at h2; exact h2.elim
        | some kk =>
          rw [hk'] at h2
          have hp : H2 p = some (.dK []) := (s1.trans s2).old p _ upd_same nρ
          have np2 := (A2.st.ho p List.mem_cons_self).2
          refine ⟨hp, [(kk, vy)], ?_, by simp, ?_⟩
          · rw [keyD_rep r1 hk']; rfl
          · show Q (.ref p) (upd H2 p (.dK [(kk, vy)]))
            have st := (stp_new (o := .dK []) np).trans (s1.trans s2)
            have A3 := A2.shift (.dK hp .nil) nO
            have hn : (ρ2 ++ [p])[S2.length]? = some p := by rw [← A2.st.len]; simp
            have s3 : Stp (ρ2 ++ [p]) H2 (ρ2 ++ [p]) (upd H2 p (.dK [(kk, vy)])) := stp_put hn
            have R4 := A3.st.put (o := .dK [(kk, vy)]) (c := .dct false false [(x, y)]) hn (.dK upd_same (.cons ⟨hk', r2.shift.mono A3.st s3⟩ .nil))
            have A4 := A3.of s3 R4
            have es : (S2 ++ [Cell.dct false false []]).set S2.length (Cell.dct false false [(x, y)]) = S2 ++ [Cell.dct false false [(x, y)]] := by simp
            rw [es] at A4
            exact h2 (ρ2 ++ [p]) _ _ ((stp_shift st np).trans s3) A4 (.loc hn)
      · exact (PX.unbar' (fun b hb => List.mem_cons_of_mem _ hb) (PX.mono e ((stp_new (o := .dK []) np).trans s1)))
    · exact (PX.unbar' (fun b hb => List.mem_cons_of_mem _ hb) (PX.mono e (stp_new (o := .dK []) np)))
/-! ### list + list, a list of its own -/
def gAddF (S : Sto) (x y : D) : Option (List D) := match asL S x, asL S y with
  | some a, some b => if a.length + b.length ≤ 1000000 then some (a ++ b) else none
  | _, _ => none
def cAddF (a b : Ev) : Sl → Sto → Res (List D) := fun δ S => (a δ S).bind fun x S1 => (b δ S1).bind fun y S2 => match gAddF S2 x y with
  | some zs => .ok zs S2
  | none => .bad
theorem SF.add (ha : SE X G W a ea) (hb : SE X G W b eb) : SF X G W (.BinOp a .Add b pos) (cAddF ea eb) :=
  (pe_op op_cat ha hb).conseq fun σ H Q ⟨ρ, O, δ, S, A, h⟩ => Post.run A h fun d S1 ρ1 v H1 h1 s1 A1 r1 => by
    refine ⟨ρ1, O, δ, S1, A1, (Res.To.bind h1).imp (fun e S2 hh ρ2 w H2 s2 A2 r2 => ?_) fun _ _ e => PX.mono e s1⟩
    unfold gAddF at hh
    cases e1 : asL S2 d with
    | none => rw [e1] at hh; exact hh.elim
    | some da =>
      cases e2 : asL S2 e with
      | none => rw [e1, e2] at hh; exact hh.elim
      | some db =>
        rw [e1, e2] at hh
        dsimp only at hh
        by_cases hl : da.length + db.length ≤ 1000000
        · rw [if_pos hl] at hh
          obtain ⟨p, vs, rfl, h3, q1⟩ := asL_rep A2.st (r1.mono A1.st s2) e1
          obtain ⟨q, ws, rfl, h4, q2⟩ := asL_rep A2.st r2 e2
          refine ⟨p, q, vs, ws, rfl, rfl, h3, h4, by rw [q1.ix.1, q2.ix.1]; exact LIM_le hl, fun p np => ?_⟩
          exact hh ρ2 p (vs ++ ws) _ ((s1.trans s2).trans (stp_new np)) (A2.barred np) (np_back (s1.trans s2) A2.st np) (A2.st.free np).2 upd_same (((q1.append q2).bar np).monoM (fun _ h => A2.st.mut h) (stp_new np))
        · rw [if_neg hl] at hh; exact hh.elim
/-! ### three names at once -/
def sPar3 (i j l : Nat) (a b c : Ev) : EvS := fun δ S => (a δ S).out δ fun d S1 => (b δ S1).out δ fun e S2 => (c δ S2).out δ fun f S3 => .nx (((δ.set i (some d)).set j (some e)).set l (some f)) S3
theorem SS.par3 {i j l : Nat} {x y z : Str} {px py pz pt : Pos} {kt k2 pt2} (hc : X.calm = true) (hN : X.N.Nodup) (hi : X.N[i]? = some x) (hj : X.N[j]? = some y) (hl : X.N[l]? = some z) (hij : i ≠ j) (hil : i ≠ l) (hjl : j ≠ l)
    (hx : X.env.scope.names.lookup x = some .local) (hy : X.env.scope.names.lookup y = some .local) (hz : X.env.scope.names.lookup z = some .local) (ha : SE X G W a ea) (hb : SE X G W b eb) (hcc : SE X G W c ec)
    (hw : swappedStores [.Tuple [.Name x px, .Name y py, .Name z pz] kt pt] (.Tuple [a, b, c] k2 pt2) X.env = pure (some [x, y, z]))
    (hs1 : starEach [a, b, c] X.env = (false, eval a X.env) :: starEach [b, c] X.env := by rfl) (hs2 : starEach [b, c] X.env = (false, eval b X.env) :: starEach [c] X.env := by rfl) (hs3 : starEach [c] X.env = (false, eval c X.env) :: starEach [] X.env := by rfl)
    (hs : swapsWithSole [.Tuple [.Name x px, .Name y py, .Name z pz] kt pt] (.Tuple [a, b, c] k2 pt2) pos.line X.env = pure false := by rfl) :
    SS X G W (.Assign [.Tuple [.Name x px, .Name y py, .Name z pz] kt pt] (.Tuple [a, b, c] k2 pt2) pos) (sPar3 i j l ea eb ec) :=
  (ps_par3 hc hN hi hj hl hij hil hjl hx hy hz (pa_cons ha (pa_cons hb (pa_cons hcc pa_nil hs3) hs2) hs1) hw hs).conseq fun D σ H ⟨ρ, O, δ, S, A, h⟩ => Post.ofO A h fun d S1 ρ1 v H1 h1 s1 A1 r1 =>
    Post.ofO A1 h1 fun e S2 ρ2 w H2 h2 s2 A2 r2 => Post.ofO A2 h2 fun f S3 ρ3 u H3 h3 s3 A3 r3 => ⟨v, w, u, rfl, h3 ρ3 _ H3 (.refl _ _) (((A3.set i (r1.mono A1.st (s2.trans s3))).set j (r2.mono A2.st s3)).set l r3)⟩
/-! ### isinstance(e, C), e the exception that a suite holds -/
/-- the class of a caught exception, as isinstance asks it -/
structure ExC (K : PySem.W.Frag) (C : Addr) : Prop where
  cl : (PySem.W.clsIn K C).isSome = true
  ga : PySem.W.findIn K (.ref C) "__getattribute__" = some (some (.builtin "BaseException.__getattribute__"))
  gt : PySem.W.findIn K (.ref C) "__getattr__" = some none
  sb : PySem.W.subIn K (.ref C) (.type "BaseException") = some true
  ha : PySem.W.findIn K (.ref C) "__class__" = some (some (.builtin "object.__class__"))
  hn : PySem.W.specialIn K (.builtin "object.__class__") "__get__" = some (some (.builtin "getset_descriptor.__get__"))
  ht : PySem.W.takesIn K (.builtin "object.__class__") = some true
  hm : PySem.W.mroIn K C (.type "object") = some true
def exCB (K : PySem.W.Frag) (C : Addr) : Bool := (PySem.W.clsIn K C).isSome && decide (PySem.W.findIn K (.ref C) "__getattribute__" = some (some (.builtin "BaseException.__getattribute__"))) && decide (PySem.W.findIn K (.ref C) "__getattr__" = some none) && decide (PySem.W.subIn K (.ref C) (.type "BaseException") = some true) &&
  decide (PySem.W.findIn K (.ref C) "__class__" = some (some (.builtin "object.__class__"))) && decide (PySem.W.specialIn K (.builtin "object.__class__") "__get__" = some (some (.builtin "getset_descriptor.__get__"))) && decide (PySem.W.takesIn K (.builtin "object.__class__") = some true) && decide (PySem.W.mroIn K C (.type "object") = some true)
theorem exCB_ok {K : PySem.W.Frag} {C : Addr} (h : exCB K C = true) : ExC K C := by
  unfold exCB at h
  simp only [Bool.and_eq_true, decide_eq_true_eq] at h
  obtain ⟨⟨⟨⟨⟨⟨⟨h1, h2⟩, h3⟩, h4⟩, h5⟩, h6⟩, h7⟩, h8⟩ := h
  exact ⟨h1, h2, h3, h4, h5, h6, h7, h8⟩
def rIsX (K : PySem.W.Frag) (C a : Addr) (d : Option Addr) : List V → Hp → VK → Prop := fun xs H Q => ∃ (c : V) (u : Value) (b : Bool) (dd : Addr) (fs : List (Str × V)), xs = [.ref a, c] ∧ ClsV c u ∧ d = some dd ∧ H dd = some (.xd fs) ∧ PySem.W.kitOne K (.ref C) u = some b ∧ Q (.bl b) H
def rIsX2 (K : PySem.W.Frag) (C a : Addr) (d : Option Addr) : List V → Hp → VK → Prop := fun xs H Q => ∃ (tp : Addr) (cs : List V) (us : List Value) (b : Bool) (dd : Addr) (fs : List (Str × V)), xs = [.ref a, .ref tp] ∧ H tp = some (.tup cs) ∧ Paired ClsV cs us ∧ d = some dd ∧ H dd = some (.xd fs) ∧ PySem.W.kitAny K (.ref C) us = some b ∧ Q (.bl b) H
theorem exc_inst {pins : List (Addr × Obj)} {σ : St} {H : Hp} {s : Shared} {C a dd : Addr} {oe : Obj} {d : Option Addr} {pn : List (Addr × Obj)} {fs : List (Str × V)} (I : Inv (X.suite a ((a, oe) :: pn)) pins σ H s) (hz : Zc (.ref C) d oe) (hf : ∃ vs, oe.data = .fields vs) (ed : d = some dd) (ea : H dd = some (.xd fs)) : ∃ od, PySem.W.InstAt s.heap a oe C (some od) := by
  obtain ⟨ha, _⟩ := I.pin (a, oe) (List.mem_append_left _ List.mem_cons_self)
  obtain ⟨vs, hd⟩ := hf
  subst ed
  have hx : ObjOk X.prog X.w H s.heap dd (.xd fs) := I.hok dd _ ea
  obtain ⟨mA, hns, hr⟩ := hx
  obtain ⟨od, ho, hl⟩ := lookIn_ns hns
  exact ⟨od, ha, hz.1, by unfold PySem.W.notCls; rw [hd] <;> rfl, by rw [hz.2]; exact ho⟩
theorem call_isX {C a : Addr} {oe : Obj} {d : Option Addr} {pn : List (Addr × Obj)} (E : ExC X.K C) (hz : Zc (.ref C) d oe) (hf : ∃ vs, oe.data = .fields vs) : CallR (X.suite a ((a, oe) :: pn)) (.builtin "isinstance") (rIsX X.K C a d) := by
  intro pins s σ H xs us Q I r h
  obtain ⟨c, u, b, dd, fs, rfl, hc, ed, ea, e, q⟩ := h
  obtain ⟨u1, u2, rfl, r1, r2⟩ := vals2 r
  have e2 := hc.eq r2
  subst e2
  cases (show u1 = Value.ref a from r1)
  obtain ⟨od, J⟩ := exc_inst I hz hf ed ea
  exact PySem.W.kia_one (PySem.W.kitx_exc E.cl E.ga E.gt E.sb E.ha E.hn E.ht E.hm) I.kIn J e (fun z => nomatch z) fun tk => ⟨.bl b, H, I.tok tk, rfl, q⟩
theorem call_isX2 {C a : Addr} {oe : Obj} {d : Option Addr} {pn : List (Addr × Obj)} (E : ExC X.K C) (hz : Zc (.ref C) d oe) (hf : ∃ vs, oe.data = .fields vs) : CallR (X.suite a ((a, oe) :: pn)) (.builtin "isinstance") (rIsX2 X.K C a d) := by
  intro pins s σ H xs us Q I r h
  obtain ⟨tp, cs, ws, b, dd, fs, rfl, hT, k, ed, ea, e, q⟩ := h
  obtain ⟨u1, u2, rfl, r1, r2⟩ := vals2 r
  cases (show u2 = Value.ref tp from r2)
  cases (show u1 = Value.ref a from r1)
  obtain ⟨_, its, rv, o, h1, h2, n, h3⟩ := (show ObjOk X.prog X.w H s.heap tp (.tup cs) from I.hok tp _ hT)
  have e3 := ClsV.all k rv
  subst e3
  obtain ⟨oc, odd, dt, sl⟩ := o
  simp only at h2 h3
  subst h2 h3
  obtain ⟨od, J⟩ := exc_inst I hz hf ed ea
  exact PySem.W.kia_tup (PySem.W.kitx_exc E.cl E.ga E.gt E.sb E.ha E.hn E.ht E.hm) I.kIn J h1 e (fun z => nomatch z) fun tk => ⟨.bl b, H, I.tok tk, rfl, q⟩
def cIsE (i : Nat) (tab : Nat → Option Bool) (x : Exn) : Ev := fun δ S => match δ[i]?, tab x.c with
  | some none, some k => .ok (.bl k) S
  | _, _ => .bad
theorem SE.isE {i : Nat} {y c : Str} {a : Addr} {oe : Obj} {cls : Value} {d : Option Addr} {pn : List (Addr × Obj)} {x : Exn} {mh : Hnd} {p p1 p2 : Pos} {cv : V} {u : Value} (tab : Nat → Option Bool) (hE : ∀ c k, tab c = some k → ExC X.K (G.ca c)) (hk : ∀ c k, tab c = some k → PySem.W.kitOne X.K (.ref (G.ca c)) u = some k)
    (hh : Holds G x mh a i cls d) (hz : Zc cls d oe) (hf : ∃ vs, oe.data = .fields vs) (hm : X.mg "isinstance" = none) (hcls : PE (X.suite a ((a, oe) :: pn)) (.Name c p2) (tC cv)) (hcv : ClsV cv u) (hN : X.N[i]? = some y) (hv : Vis X.env.scope y)
    (hg : Gl X "isinstance" := by rfl) (hd : (y == ("__debug__" : Str)) = false := by decide) (hcd : (y == ("__classdict__" : Str)) = false := by decide)
    (he : starEach [.Name y p1, .Name c p2] X.env = (false, eval (.Name y p1) X.env) :: starEach [.Name c p2] X.env := by rfl) (he2 : starEach [.Name c p2] X.env = (false, eval (.Name c p2) X.env) :: starEach [] X.env := by rfl) (hpl : (backTo pos (starEach [.Name c p2] X.env)).any (·.1) = false := by rfl) :
    SE (X.suite a ((a, oe) :: pn)) (G.suite mh) W (.Call (.Name "isinstance" p) [.Name y p1, .Name c p2] [] pos) (cIsE i tab x) := by
  have hcl := hh.c
  subst hcl
  by_cases ht : ∃ k, tab x.c = some k
  · obtain ⟨k, ht⟩ := ht
    refine (pe_callB (X := X.suite a ((a, oe) :: pn)) (call_isX (hE _ _ ht) hz hf) hg hm (by decide +kernel) (pa_cons (pe_var (X := X.suite a ((a, oe) :: pn)) hN hv hd hcd) (pa_cons hcls pa_nil he2) he) (by decide) (by decide) he hpl).conseq fun σ H Q ⟨ρ, O, δ, S, A, h⟩ => ?_
    unfold cIsE at h
    rw [ht] at h
    split at h
    · rename_i k' e1 e2
      cases e2
      have hx := A.hx mh rfl
      have e3 : σ[i]? = some (some (.ref a)) := by rw [← hh.i, A.hs mh rfl (by rw [hh.i]; exact e1), hh.a]
      exact ⟨.ref a, e3, cv, u, k, mh.dd, _, rfl, hcv, hh.d, hx.1, hk _ _ ht, h ρ _ H (.refl _ _) A (.bl _)⟩
    · exact h.elim
  · refine ⟨fun pins s σ H Q I ⟨ρ, O, δ, S, A, h⟩ => ?_⟩
    unfold cIsE at h
    split at h
    · rename_i k' e1 e2
      exact absurd ⟨_, e2⟩ ht
    · exact h.elim
theorem SE.isE2 {i : Nat} {y c c' : Str} {a : Addr} {oe : Obj} {cls : Value} {d : Option Addr} {pn : List (Addr × Obj)} {x : Exn} {mh : Hnd} {p p1 p2 p3 p4 : Pos} {kt : Nat} {cv cw : V} {u u' : Value} (tab : Nat → Option Bool) (hE : ∀ c k, tab c = some k → ExC X.K (G.ca c)) (hk : ∀ c k, tab c = some k → PySem.W.kitAny X.K (.ref (G.ca c)) [u, u'] = some k)
    (hh : Holds G x mh a i cls d) (hz : Zc cls d oe) (hf : ∃ vs, oe.data = .fields vs) (hm : X.mg "isinstance" = none) (hcls : PE (X.suite a ((a, oe) :: pn)) (.Name c p2) (tC cv)) (hcls' : PE (X.suite a ((a, oe) :: pn)) (.Name c' p3) (tC cw)) (hcv : ClsV cv u) (hcw : ClsV cw u') (hN : X.N[i]? = some y) (hv : Vis X.env.scope y)
    (hg : Gl X "isinstance" := by rfl) (hd : (y == ("__debug__" : Str)) = false := by decide) (hcd : (y == ("__classdict__" : Str)) = false := by decide)
    (he : starEach [.Name y p1, .Tuple [.Name c p2, .Name c' p3] kt p4] X.env = (false, eval (.Name y p1) X.env) :: starEach [.Tuple [.Name c p2, .Name c' p3] kt p4] X.env := by rfl)
    (he2 : starEach [.Tuple [.Name c p2, .Name c' p3] kt p4] X.env = (false, eval (.Tuple [.Name c p2, .Name c' p3] kt p4) X.env) :: starEach [] X.env := by rfl) (hpl : (backTo pos (starEach [.Tuple [.Name c p2, .Name c' p3] kt p4] X.env)).any (·.1) = false := by rfl)
    (hs1 : starEach [.Name c p2, .Name c' p3] X.env = (false, eval (.Name c p2) X.env) :: starEach [.Name c' p3] X.env := by rfl) (hs2 : starEach [.Name c' p3] X.env = (false, eval (.Name c' p3) X.env) :: starEach [] X.env := by rfl) :
    SE (X.suite a ((a, oe) :: pn)) (G.suite mh) W (.Call (.Name "isinstance" p) [.Name y p1, .Tuple [.Name c p2, .Name c' p3] kt p4] [] pos) (cIsE i tab x) := by
  have hcl := hh.c
  subst hcl
  by_cases ht : ∃ k, tab x.c = some k
  · obtain ⟨k, ht⟩ := ht
    refine (pe_callB (X := X.suite a ((a, oe) :: pn)) (call_isX2 (hE _ _ ht) hz hf) hg hm (by decide +kernel) (pa_cons (pe_var (X := X.suite a ((a, oe) :: pn)) hN hv hd hcd) (pa_cons (pe_tup (pa_cons hcls (pa_cons hcls' pa_nil hs2) hs1)) pa_nil he2) he) (by decide) (by decide) he hpl).conseq fun σ H Q ⟨ρ, O, δ, S, A, h⟩ => ?_
    unfold cIsE at h
    rw [ht] at h
    split at h
    · rename_i k' e1 e2
      cases e2
      have hx := A.hx mh rfl
      have e3 : σ[i]? = some (some (.ref a)) := by rw [← hh.i, A.hs mh rfl (by rw [hh.i]; exact e1), hh.a]
      refine ⟨.ref a, e3, ?_⟩
      refine ⟨by show 2 ≤ sizeLine; decide, fun q np => ?_⟩
      have nq : mh.dd ≠ q := fun z => by rw [← z] at np; rw [hx.1] at np; cases np
      exact ⟨q, _, _, k, mh.dd, _, rfl, upd_same, .cons hcv (.cons hcw .nil), hh.d, (upd_ne nq).trans hx.1, hk _ _ ht, h ρ _ _ (stp_new np) (A.of (stp_new np) (A.st.new np)) (.bl _)⟩
    · exact h.elim
  · refine ⟨fun pins s σ H Q I ⟨ρ, O, δ, S, A, h⟩ => ?_⟩
    unfold cIsE at h
    split at h
    · rename_i k' e1 e2
      exact absurd ⟨_, e2⟩ ht
    · exact h.elim
/-- e.f, e of one of some classes -/
theorem SE.xfs {i : Nat} {y n : Str} {a : Addr} {oe : Obj} {cls : Value} {d : Option Addr} {pn : List (Addr × Obj)} {x : Exn} {mh : Hnd} {p : Pos} {m : Nat → Option Bool} (T : ∀ c, m c = some true → XfC X.K (G.ca c) ∧ PySem.W.findIn X.K (.ref (G.ca c)) n = some none ∧ G.fld c = n) (hx : m x.c = some true)
    (hh : Holds G x mh a i cls d) (hz : Zc cls d oe) (hf : ∃ vs, oe.data = .fields vs) (hN : X.N[i]? = some y) (hv : Vis X.env.scope y) (hb : attributeBase (.Name y p) n X.env (eval (.Name y p) X.env) = eval (.Name y p) X.env := by rfl)
    (hd : (y == ("__debug__" : Str)) = false := by decide) (hcd : (y == ("__classdict__" : Str)) = false := by decide) : SE (X.suite a ((a, oe) :: pn)) (G.suite mh) W (.Attribute (.Name y p) n pos) (cXf i x) :=
  SE.xf (T _ hx).1 (T _ hx).2.1 (T _ hx).2.2 rfl hh hz hf hN hv hb hd hcd
end
end Mp

/-! Mp, part 21: exceptions as values. -/
namespace Mp
open PySem PySem.Spec L2
open PyProof.Rows hiding St

section
variable {X : Cx} {G : Glo} {W : WX} {a b o e : Expr} {ea eb eo ee : Ev} {pos p : Pos} {es : List Expr} {ta : TA}
/-- what is made to be raised may be held as well -/
theorem pe_exv {t : St → Hp → XK → Prop} (h : PMk X e t) : PE X e fun σ H Q => t σ H fun cls d H' => ∀ a, H' a = none → ∃ C dx, cls = .ref C ∧ d = some dx ∧ Q (.ref a) (upd H' a (exV C dx a)) := by
  refine ⟨fun pins s σ H Q I q => thn (h pins s σ H _ I q) fun u s1 m => ?_⟩
  obtain ⟨a, oe, vs, sI, H', cls, d, rfl, J, k, hne, ha, hz, hd, _, na, os, ag, _, hq⟩ := m
  obtain ⟨C, dx, rfl, rfl, hq2⟩ := hq a na
  have new : ObjOk X.prog X.w (upd H' a (exV C dx a)) s1.heap a (exV C dx a) := ⟨⟨oe, vs, ha, hz.1, hz.2, hd⟩, ⟨oe, ha⟩, fun h1 h2 ⟨o, w, g, r⟩ kk => ⟨o, w, kk o g, r⟩⟩
  exact ⟨.ref a, _, J.call' (ch := []) os (Un.laidN k hne na) (J.hok.laidN k na new) ag (fun b z => absurd z (by simp)), rfl, hq2⟩
/-- C(e): an own exception as a value -/
def cExn (c f : Nat) (a : Ev) : Ev := fun δ S => (a δ S).bind fun d S1 => .ok (.exn c f d) S1
theorem SE.exn {c c' f' k : Nat} {x f : Str} {p : Pos} (R : OwnX X.prog X.w X.K X.mg X.base G c x f) (hc' : G.ca c = He.ga X.K (clsN c')) (hf' : f = fldN f') (tk : Takes X W) (hr : Room k X.A) (ha : SE X G W a ea) (hk : 3 ≤ k := by decide) (hg : Gl X x := by rfl) (hdb : (x == ("__debug__" : Str)) = false := by decide)
    (h1 : starEach [a] X.env = (false, eval a X.env) :: starEach [] X.env := by rfl) (hpl : (backTo pos (starEach [] X.env)).any (·.1) = false := by rfl) :
    SE X G W (.Call (.Name x p) [a] [] pos) (cExn c' f' ea) := by
  obtain ⟨fI, fd, ps, iC, tI, F, hb⟩ := R.ini
  refine (pe_exv (pmk_oex R.T iC tI F (hr.mono hk) hb .nil (passes_call tk fun _ _ _ _ z => z.elim) hg R.gC (pa_cons ha pa_nil h1) hdb h1 hpl)).conseq fun σ H Q ⟨ρ, O, δ, S, A, h⟩ => ?_
  refine Post.run A h fun d S1 ρ1 v H1 h1 s1 A1 r1 => ?_
  refine ⟨(by show 1 ≤ 1000; decide), fun a na => ⟨a, v, rfl, upd_same, fun dx nd ne => ?_⟩⟩
  have nd' : H1 dx = none := by rw [upd_ne ne] at nd; exact nd
  refine ⟨rfl, dx, [(f, v)], upd_same, by rw [upd_ne ne, upd_same], nd', fun y ny => ⟨_, dx, rfl, rfl, ?_⟩⟩
  rw [upd_made na ne] at ny ⊢
  have hy : y ≠ dx := fun z => by rw [z, upd_same] at ny; cases ny
  have ny' : H1 y = none := by rw [upd_ne hy] at ny; exact ny
  have s2 : Stp ρ1 H1 ρ1 (upd (upd H1 dx (.xd [(f, v)])) y (exV (G.ca c) dx y)) := (stp_new nd').trans (stp_new ny)
  have R2 := (A1.st.new (o := .xd [(f, v)]) nd').new (o := exV (G.ca c) dx y) ny
  have fa := A1.st.free ny'
  have fd' := A1.st.free nd'
  refine h1 ρ1 _ _ (s1.trans s2) (A1.of s2 R2) (.exn (dx := dx) (v := v) ?_ fa.1 fa.2 ?_ fd'.1 fd'.2 (r1.mono A1.st s2))
  · rw [upd_same, hc']
  · rw [upd_ne (Ne.symm hy), upd_same, hf']
end
/-! ### isinstance, exceptions too -/
/-- an own exception is none of the types -/
structure ExV (K : PySem.W.Frag) (c : Nat) : Prop where
  ex : ExC K (He.ga K (clsN c))
  no : ∀ T : Ty, T ≠ .non → PySem.W.kitOne K (.ref (He.ga K (clsN c))) (.type T.nm) = some false
def exVB (K : PySem.W.Frag) (c : Nat) : Bool := exCB K (He.ga K (clsN c)) && [Ty.bool, .int, .str, .list, .tuple, .dict].all fun T => decide (PySem.W.kitOne K (.ref (He.ga K (clsN c))) (.type T.nm) = some false)
theorem exVB_ok {K : PySem.W.Frag} {c : Nat} (h : exVB K c = true) : ExV K c := by
  unfold exVB at h
  simp only [Bool.and_eq_true, List.all_cons, List.all_nil, decide_eq_true_eq] at h
  obtain ⟨h0, h1, h2, h3, h4, h5, h6, _⟩ := h
  refine ⟨exCB_ok h0, fun T hT => ?_⟩
  cases T with
  | non => exact absurd rfl hT
  | bool => exact h1
  | int => exact h2
  | str => exact h3
  | list => exact h4
  | tuple => exact h5
  | dict => exact h6
def gIsE (cs : List Nat) (T : Ty) (S : Sto) (d : D) : Option D := match d with
  | .exn c _ _ => if c ∈ cs then some (.bl false) else none
  | d => gIsi T S d
def rIsiE (K : PySem.W.Frag) : List V → Hp → VK → Prop := fun xs H Q => rIsi K xs H Q ∨ ∃ (a C dx : Addr) (fs : List (Str × V)) (c : V) (u : Value) (b : Bool), xs = [.ref a, c] ∧ ClsV c u ∧ H a = some (exV C dx a) ∧ H dx = some (.xd fs) ∧ ExC K C ∧ PySem.W.kitOne K (.ref C) u = some b ∧ Q (.bl b) H
section
variable {X : Cx} {G : Glo} {W : WX} {a : Expr} {ea : Ev} {pos : Pos}
theorem call_isiE : CallR X (.builtin "isinstance") (rIsiE X.K) := by
  intro pins s σ H xs us Q I r h
  rcases h with h | ⟨a, C, dx, fs, c, u, b, rfl, hc, h1, h2, E, e, q⟩
  · exact call_isi pins s σ H xs us Q I r h
  · obtain ⟨u1, u2, rfl, r1, r2⟩ := vals2 r
    have e2 := hc.eq r2
    subst e2
    cases (show u1 = Value.ref a from r1)
    obtain ⟨⟨oe, vs, g1, g2, g3, g4⟩, _⟩ := (show ObjOk X.prog X.w H s.heap a (exV C dx a) from I.hok a _ h1)
    obtain ⟨mA, hns, hr⟩ := (show ObjOk X.prog X.w H s.heap dx (.xd fs) from I.hok dx _ h2)
    obtain ⟨od, ho, hl⟩ := lookIn_ns hns
    have J : PySem.W.InstAt s.heap a oe C (some od) := ⟨g1, g2, by unfold PySem.W.notCls; rw [g4] <;> rfl, by rw [g3]; exact ho⟩
    exact PySem.W.kia_one (PySem.W.kitx_exc E.cl E.ga E.gt E.sb E.ha E.hn E.ht E.hm) I.kIn J e (fun z => nomatch z) fun tk => ⟨.bl b, H, I.tok tk, rfl, q⟩
theorem Q.isE (cs : List Nat) (T : Ty) {x : Str} {p p2 : Pos} (hcs : ∀ c ∈ cs, ExV X.K c) (hm : X.mg "isinstance" = none) (hmx : X.mg x = none) (ha : SE X G W a ea) (hT : T ≠ .non := by decide) (hg : Gl X "isinstance" := by rfl) (hx : Gl X x := by rfl)
    (hbx : bootBuiltins x = some (.type T.nm) := by decide +kernel) (hn : x ≠ "__name__" := by decide) (hd : (x == ("__debug__" : Str)) = false := by decide)
    (he : starEach [a, .Name x p2] X.env = (false, eval a X.env) :: starEach [.Name x p2] X.env := by rfl) (he2 : starEach [.Name x p2] X.env = (false, eval (.Name x p2) X.env) :: starEach [] X.env := by rfl) (hpl : (backTo pos (starEach [.Name x p2] X.env)).any (·.1) = false := by rfl) :
    SE X G W (.Call (.Name "isinstance" p) [a, .Name x p2] [] pos) (cUn (gIsE cs T) ea) :=
  (pe_callB call_isiE hg hm (by decide +kernel) (pa_cons ha (pa_cons (pe_bltn (v := .ty T.nm) hx hmx hbx rfl hn hd) pa_nil he2) he) (by decide) (by decide) he hpl).conseq fun σ H Q ⟨ρ, O, δ, S, A, h⟩ =>
    Post.run A h fun d S1 ρ1 v H1 h1 s1 A1 r1 => by
      have old : gIsE cs T S1 d = gIsi T S1 d → rIsiE X.K [v, .ty T.nm] H1 Q := fun e0 => by
        rw [e0] at h1
        unfold gIsi at h1
        cases e : tyD S1 d with
        | none => rw [e] at h1; exact h1.elim
        | some t =>
          rw [e] at h1
          exact .inl ⟨v, _, _, _, _, rfl, .ty _, tyX_of A1.st r1 e, kit_ty (kit_sub t T hT), h1 ρ1 _ H1 s1 A1 (.bl _)⟩
      cases d with
      | exn c f dd =>
        unfold gIsE at h1
        dsimp only at h1
        by_cases hc : c ∈ cs
        · rw [if_pos hc] at h1
          cases r1 with
          | exn g1 g2 g3 g4 g5 g6 g7 => exact .inr ⟨_, _, _, _, _, _, false, rfl, .ty _, g1, g4, (hcs c hc).ex, (hcs c hc).no T hT, h1 ρ1 _ H1 s1 A1 (.bl _)⟩
        · rw [if_neg hc] at h1; exact h1.elim
      | _ => exact old rfl
end
section
variable {S : Sto} {ds : List D} {T : Ty} {cs : List Nat}
@[simp] theorem isE_non : gIsE cs T S .non = some (.bl (Ty.non.sub T)) := (rfl)
@[simp] theorem isE_bl {k : Bool} : gIsE cs T S (.bl k) = some (.bl (Ty.bool.sub T)) := (rfl)
@[simp] theorem isE_i {m : Int} : gIsE cs T S (.int m) = some (.bl (Ty.int.sub T)) := (rfl)
@[simp] theorem isE_s {z : List Nat} : gIsE cs T S (.str z) = some (.bl (Ty.str.sub T)) := (rfl)
@[simp] theorem isE_t : gIsE cs T S (.tup ds) = some (.bl (Ty.tuple.sub T)) := (rfl)
@[simp] theorem isE_l : gIsE cs T S (.lst ds) = some (.bl (Ty.list.sub T)) := (rfl)
@[simp] theorem isE_e {c f : Nat} {d : D} : gIsE cs T S (.exn c f d) = if c ∈ cs then some (.bl false) else none := (rfl)
@[simp] theorem isE_o {n : Nat} : gIsE cs T S (.loc n) = gIsi T S (.loc n) := (rfl)
end
end Mp

/-! plain facts, for every law -/
namespace Wk
open PySem PySem.Spec L2 Mp
open PyProof.Rows hiding St
/-- a bag at n, at most k draws done -/
def Bag (S : Sto) (n : Nat) (k : Int) : Prop := ∃ a m c : Int, S[n]? = some (.lst [.int a, .int m, .int c]) ∧ 0 ≤ a ∧ 0 ≤ m ∧ m < 2147483648 ∧ 0 ≤ c ∧ c ≤ k
/-- but for the object at n all stands -/
def But (S : Sto) (n : Nat) (S' : Sto) : Prop := S'.length = S.length ∧ ∀ j, j ≠ n → S'[j]? = S[j]?
theorem But.refl (S : Sto) (n : Nat) : But S n S := ⟨rfl, fun _ _ => rfl⟩
theorem But.trans {S T U : Sto} {n : Nat} (a : But S n T) (b : But T n U) : But S n U := ⟨b.1.trans a.1, fun j h => (b.2 j h).trans (a.2 j h)⟩
theorem But.set (S : Sto) (n : Nat) (c : Cell) : But S n (S.set n c) := ⟨by simp, fun j h => by rw [List.getElem?_set_ne (Ne.symm h)]⟩
theorem lt_of_get {S : Sto} {n : Nat} {c : Cell} (h : S[n]? = some c) : n < S.length := (List.getElem?_eq_some_iff.mp h).1
theorem log_small {n : Nat} (h : n < 18446744073709551616) : n.log2 < 64 := by
  by_cases e : n = 0
  · subst e; decide
  · exact (Nat.log2_lt e).mpr h
theorem mul_guard (a b : Nat) (ha : a < 18446744073709551616) (hb : b < 18446744073709551616) : a.log2 + b.log2 < 1000000 := by
  have := log_small ha
  have := log_small hb
  omega
/-- a comprehension that draws -/
theorem lcL_inv {q : List D} {tg : Tgt} {t : EvB} {a : Ev} {vs : List Nat} {δ : Sl} {P : D → Prop} {I : Sto → Int → Prop} : ∀ (ds : List D) (S : Sto) (i : Int) (acc : List D), acc.length + ds.length ≤ 1000000 → I S i →
    (∀ d ∈ ds, ∀ S j, j < i + ds.length → I S j → ∃ δ1 y S', tg d (wipeD δ vs) S = some δ1 ∧ t δ1 S = .ok true S ∧ a δ1 S = .ok y S' ∧ P y ∧ I S' (j + 1)) →
    ∃ ys S', lcL (q, none) tg t a vs δ ds S acc = .ok (acc ++ ys) S' ∧ ys.length = ds.length ∧ (∀ y ∈ ys, P y) ∧ I S' (i + ds.length)
  | [], S, i, acc, _, hI, _ => ⟨[], S, by unfold lcL; rw [if_pos (show okS (q, none) S from trivial)]; simp, rfl, by simp, by simpa using hI⟩
  | d :: ds, S, i, acc, hl, hI, hf => by
    obtain ⟨δ1, y, S1, h1, h2, h3, hP, hI1⟩ := hf d List.mem_cons_self S i (by simp; omega) hI
    rw [List.length_cons] at hl
    obtain ⟨ys, S2, e, hlen, hall, hI2⟩ := lcL_inv ds S1 (i + 1) (acc ++ [y]) (by simp; omega) hI1 fun e he S j hj hI => hf e (List.mem_cons_of_mem _ he) S j (by rw [List.length_cons]; omega) hI
    refine ⟨y :: ys, S2, ?_, by simp [hlen], fun z hz => ?_, by rw [List.length_cons]; have : i + ((ds.length + 1 : Nat) : Int) = i + 1 + ds.length := by omega
                                                                rw [this]; exact hI2⟩
    · unfold lcL
      rw [if_pos (show okS (q, none) S from trivial)]
      simp only [h1, h2, h3, Res.nox, Res.bind_ok, if_true]
      rw [if_pos (by omega), e]
      simp
    · rcases List.mem_cons.mp hz with hz | hz
      · rw [hz]; exact hP
      · exact hall z hz
theorem joinL_flat : ∀ ys : List (List Nat), TL.joinL [] ys = ys.flatten
  | [] => rfl
  | [p] => by simp [TL.joinL]
  | p :: q :: r => by
    show p ++ ([] ++ TL.joinL [] (q :: r)) = _
    rw [List.nil_append, joinL_flat (q :: r)]; rfl
theorem strsOf_one : ∀ cs : List Nat, strsOf (cs.map fun c => D.str [c]) = some (cs.map fun c => [c])
  | [] => rfl
  | c :: r => by
    show (strsOf (r.map fun c => D.str [c])).map ([c] :: ·) = _
    rw [strsOf_one r]; rfl
theorem strs_of_P {p : Nat → Prop} : ∀ {ys : List D}, (∀ y ∈ ys, ∃ c, y = .str [c] ∧ p c) → ∃ cs : List Nat, ys = cs.map (fun c => .str [c]) ∧ ∀ c ∈ cs, p c
  | [], _ => ⟨[], rfl, by simp⟩
  | y :: ys, h => by
    obtain ⟨c, rfl, hc⟩ := h y List.mem_cons_self
    obtain ⟨cs, rfl, hcs⟩ := strs_of_P fun z hz => h z (List.mem_cons_of_mem _ hz)
    exact ⟨c :: cs, rfl, fun d hd => (List.mem_cons.mp hd).elim (fun e => e ▸ hc) (hcs d)⟩
theorem gJoin_one {S : Sto} {cs : List Nat} (h : cs.length ≤ 100000) : gJoin S (.str []) [.lst (cs.map fun c => .str [c])] = some (.str cs, S) := by
  unfold gJoin
  show (match (asL S (.lst (cs.map fun c => D.str [c]))).bind strsOf with | some bs => if (List.map List.length bs).sum + bs.length * 0 ≤ 1000000 then some (D.str (TL.joinL [] bs), S) else none | none => none) = _
  have e : (asL S (.lst (cs.map fun c => D.str [c]))).bind strsOf = some (cs.map fun c => [c]) := strsOf_one cs
  rw [e]
  have s : (List.map List.length (cs.map fun c => [c])).sum = cs.length := by
    clear e h
    induction cs with
    | nil => rfl
    | cons c r ih => simp at ih ⊢; omega
  dsimp only
  rw [s, if_pos (by omega), joinL_flat]
  congr 2
  clear e s h
  induction cs with
  | nil => rfl
  | cons c r ih => simpa using ih
/-- a word -/
def isW (x : List Nat) : Bool := decide (1 ≤ x.length) && decide (x.length ≤ 8) && x.all fun c => decide (97 ≤ c) && decide (c ≤ 122)
theorem atI_ok {α : Type} {xs : List α} {r : Int} (h0 : 0 ≤ r) (h1 : r < xs.length) : ∃ n : Nat, r = n ∧ n < xs.length ∧ atI xs r = xs[n]? := by
  obtain ⟨n, rfl⟩ := Int.eq_ofNat_of_zero_le h0
  exact ⟨n, rfl, by omega, atI_nat⟩
theorem Bag.mono {S : Sto} {n : Nat} {k k' : Int} (B : Bag S n k) (h : k ≤ k') : Bag S n k' := by
  obtain ⟨a, m, c, h1, h2, h3, h4, h5, h6⟩ := B
  exact ⟨a, m, c, h1, h2, h3, h4, h5, by omega⟩
abbrev abc : List Nat := [97, 98, 99, 100, 101, 102, 103, 104, 105, 106, 107, 108, 109, 110, 111, 112, 113, 114, 115, 116, 117, 118, 119, 120, 121, 122]
theorem abc_at : ∀ n : Nat, n < 26 → abc[n]? = some (97 + n) := by decide
theorem abc_mem (c : Nat) : c ∈ abc ↔ 97 ≤ c ∧ c ≤ 122 := by
  constructor
  · intro h; simp at h; omega
  · intro h; simp; omega
theorem rngL_mem {n : Nat} : ∀ {lo : Int} {d : D}, d ∈ rngL lo n → ∃ i, d = .int i := by
  intro lo d h
  obtain ⟨i, hi⟩ := List.getElem?_of_mem h
  exact ⟨_, rngL_get n lo i d hi⟩
abbrev resTx : List Nat := [108, 101, 116, 32, 100, 101, 108, 32, 105, 102, 32, 101, 108, 115, 101, 32, 119, 104, 105, 108, 101, 32, 101, 97, 99, 104, 32, 105, 110, 32, 112, 114, 105, 110, 116, 32, 102, 97, 105, 108, 32, 104, 97, 115, 32, 99, 111, 117, 110, 116, 32, 115, 117, 109, 32, 110, 111, 116, 32, 97, 110, 100, 32, 111, 114, 32, 109, 111, 100]
theorem res_split (S : Sto) : gSplit S (.str resTx) [.str [32]] = some ((TL.spl [32] 0 [] resTx).map .str) := by unfold gSplit; exact if_pos (by decide)
theorem res_words : (TL.spl [32] 0 [] resTx).length = 16 ∧ ∀ x ∈ TL.spl [32] 0 [] resTx, isW x = true := by decide
def IsV (d : D) : Prop := (∃ i : Int, d = .int i ∧ -1000000000000000 ≤ i ∧ i ≤ 1000000000000000) ∨ ∃ x, d = .str x ∧ isW x = true
theorem pick {α : Type} {P : α → Prop} {xs : List α} {r : Int} (h0 : 0 ≤ r) (h1 : r < xs.length) (hP : ∀ x ∈ xs, P x) : ∃ x, atI xs r = some x ∧ P x := by
  obtain ⟨n, rfl, hn, e⟩ := atI_ok h0 h1
  exact ⟨xs[n], by rw [e, List.getElem?_eq_getElem hn], hP _ (List.getElem_mem hn)⟩
theorem cutL_len {α : Type} (x : List α) (lo hi : Option Int) : (cutL x lo hi).length ≤ x.length := by
  unfold cutL; rw [List.length_take, List.length_drop]; omega
theorem cutL_mem {α : Type} {x : List α} {lo hi : Option Int} {c : α} (h : c ∈ cutL x lo hi) : c ∈ x := by
  unfold cutL at h; exact List.mem_of_mem_drop (List.mem_of_mem_take h)
theorem gAdd_sg {S : Sto} {y z : List Nat} (h : y.length + z.length ≤ 1000000) : gAdd S (.str y) (.str z) = some (.str (y ++ z)) := by rw [gAdd_s, if_pos h]
theorem gCut_sg {S : Sto} {y : List Nat} {lo hi : Option Int} (h : y.length ≤ 1000000) : gCut S (.str y) lo hi = some (.str (cutL y lo hi)) := by rw [gCut_s, if_pos h]
theorem gLen_sg {S : Sto} {y : List Nat} (h : y.length ≤ 1000000) : gLen S [.str y] = some (.int y.length, S) := by rw [gLen_s, if_pos h]
theorem gIx_sg {S : Sto} {y : List Nat} {m : Int} (h : y.length ≤ 1000000) : gIx S (.str y) (.int m) = (atI y m).map fun c => .str [c] := by rw [gIx_s, if_pos h]
/-- a text of at most L signs, all of them signs -/
def TxOk (L : Nat) (x : List Nat) : Prop := x.length ≤ L ∧ ∀ c ∈ x, c < 1114112
theorem TxOk.app {L M : Nat} {x y : List Nat} (a : TxOk L x) (b : TxOk M y) : TxOk (L + M) (x ++ y) := ⟨by rw [List.length_append]; have := a.1; have := b.1; omega, fun c hc => (List.mem_append.mp hc).elim (a.2 c) (b.2 c)⟩
theorem TxOk.cut {L : Nat} {x : List Nat} (a : TxOk L x) (lo hi : Option Int) : TxOk L (cutL x lo hi) := ⟨Nat.le_trans (cutL_len _ _ _) a.1, fun c hc => a.2 c (cutL_mem hc)⟩
theorem TxOk.mono {L M : Nat} {x : List Nat} (a : TxOk L x) (h : L ≤ M) : TxOk M x := ⟨Nat.le_trans a.1 h, a.2⟩
abbrev nearL : List Nat := [126, 35, 48, 49, 50, 57, 97, 98, 122, 65, 45, 43, 46, 95, 32, 91, 93, 10, 96, 123, 47, 58, 44]
abbrev evryL : List Nat := [32, 33, 35, 36, 38, 39, 40, 41, 42, 43, 44, 45, 46, 47, 48, 49, 50, 51, 52, 53, 54, 55, 56, 57, 58, 59, 60, 61, 62, 63, 64, 65, 66, 67, 68, 69, 70, 71, 72, 73, 74, 75, 76, 77, 78, 79, 80, 81, 82, 83, 84, 85, 86, 87, 88, 89, 90, 91, 93, 94, 95, 96, 97, 98, 99, 100, 101, 102, 103, 104, 105, 106, 107, 108, 109, 110, 111, 112, 113, 114, 115, 116, 117, 118, 119, 120, 121, 122, 123, 124, 125, 126, 10, 34, 92]
abbrev dgt : List Nat := [48, 49, 50, 51, 52, 53, 54, 55, 56, 57]
theorem dgt_mem (c : Nat) : c ∈ dgt ↔ 48 ≤ c ∧ c ≤ 57 := by
  constructor
  · intro h; simp at h; omega
  · intro h; simp; omega
theorem dgt_at : ∀ n : Nat, n < 10 → dgt[n]? = some (48 + n) := by decide
/-- [sign in z for sign in x] -/
theorem lc_in {S : Sto} {q : List D} {δ : Sl} {i : Nat} {z x : List Nat} (p : Nat → Bool) (hp : ∀ c, decide (c ∈ z) = p c) (hi : i < δ.length) (hx : x.length ≤ 1000000) : lcL (q, none) (tNm i) tTrue (cBin gIn (cVar i) (cC (.str z))) [i] δ (x.map fun c => .str [c]) S [] = .ok (x.map fun c => .bl (p c)) S := by
  have h := lcL_all (q := q) (tg := tNm i) (t := tTrue) (a := cBin gIn (cVar i) (cC (.str z))) (vs := [i]) (δ := δ) (S := S) (ds := x.map fun c => .str [c]) (f := fun d => match d with | .str [c] => .bl (p c) | _ => .non) (fun d hd => by
    obtain ⟨c, _, rfl⟩ := List.mem_map.mp hd
    refine ⟨_, rfl, rfl, ?_⟩
    have : ((wipeD δ [i]).set i (some (D.str [c])))[i]? = some (some (.str [c])) := List.getElem?_set_self (by rw [wipeD_len]; exact hi)
    simp [this, hp, -List.mem_cons]) [] (by simpa using hx)
  rw [h]
  simp
def isA (c : Nat) : Bool := decide (97 ≤ c) && decide (c ≤ 122)
theorem isA_mem (c : Nat) : decide (c ∈ abc) = isA c := by
  rw [Bool.eq_iff_iff]
  unfold isA
  simp only [Bool.and_eq_true, decide_eq_true_eq]
  exact abc_mem c
def isD (c : Nat) : Bool := decide (48 ≤ c) && decide (c ≤ 57)
theorem isD_mem (c : Nat) : decide (c ∈ dgt) = isD c := by
  rw [Bool.eq_iff_iff]
  unfold isD
  simp only [Bool.and_eq_true, decide_eq_true_eq]
  exact dgt_mem c
theorem all_bl {S : Sto} {x : List Nat} (p : Nat → Bool) : gAll S (.lst (x.map fun c => .bl (p c))) = some (.bl (x.all p)) := by
  unfold gAll
  have : blsOf (x.map fun c => D.bl (p c)) = some (x.map p) := by
    induction x with
    | nil => rfl
    | cons c r ih => show (blsOf (r.map fun c => D.bl (p c))).map (p c :: ·) = _; rw [ih]; rfl
  show ((some (x.map fun c => D.bl (p c))).bind blsOf).map _ = _
  show (blsOf (x.map fun c => D.bl (p c))).map _ = _
  rw [this]
  simp
theorem tree_strs (S : Sto) (n : Nat) : ∀ cs : List Nat, mapO (treeD S n) (cs.map fun c => D.str [c]) = some (cs.map fun c => PyData.str (tx [c]))
  | [] => rfl
  | c :: r => by
    show (match treeD S n (D.str [c]), mapO (treeD S n) (r.map fun c => D.str [c]) with | some t, some ts => some (t :: ts) | _, _ => none) = _
    rw [tree_strs S n r]
    cases n <;> rfl
theorem strOk_tx {x : List Nat} (h : ∀ c ∈ x, c < 1114112) : PyData.strOk (tx x) = true := by
  unfold PyData.strOk tx
  rw [Array.all_eq_true']
  intro c hc
  simp at hc
  simpa using h c hc
theorem shaped_str {x : List Nat} (h : ∀ c ∈ x, c < 1114112) : SeqAt.shaped (.str (tx x)) = true := by
  unfold SeqAt.shaped
  simp only [PyData.canLay0, strOk_tx h, PyData.depth, Bool.true_and]
  rfl
theorem lay_strs : ∀ cs : List Nat, (∀ c ∈ cs, c < 1114112) → PyData.canLayAll0 (cs.map fun c => PyData.str (tx [c])) = true
  | [], _ => by simp [PyData.canLayAll0]
  | c :: r, h => by
    simp only [List.map_cons, PyData.canLayAll0, PyData.canLay0, Bool.and_eq_true]
    exact ⟨strOk_tx (by simpa using h c List.mem_cons_self), lay_strs r fun d hd => h d (List.mem_cons_of_mem _ hd)⟩
theorem depth_strs : ∀ cs : List Nat, PyData.depthAll (cs.map fun c => PyData.str (tx [c])) ≤ 1
  | [] => by simp [PyData.depthAll]
  | c :: r => by
    have := depth_strs r
    simp only [List.map_cons, PyData.depthAll, PyData.depth]
    omega
theorem eq_nil {S : Sto} {cs : List Nat} (h : ∀ c ∈ cs, c < 1114112) : gEq S (.lst (cs.map fun c => .str [c])) (.lst []) = some (.bl cs.isEmpty) := by
  have e1 : treeD S 60 (.lst (cs.map fun c => .str [c])) = some (.list (cs.map fun c => PyData.str (tx [c]))) := by
    show (mapO (treeD S 59) _).map PyData.list = _
    rw [tree_strs]; rfl
  have e2 : treeD S 60 (.lst []) = some (.list []) := rfl
  show gEq0 S (.lst (cs.map fun c => .str [c])) (.lst []) = _
  unfold gEq0
  rw [e1, e2]
  dsimp only
  have s1 : SeqAt.shaped (.list (cs.map fun c => PyData.str (tx [c]))) = true := by
    unfold SeqAt.shaped
    have := depth_strs cs
    simp only [PyData.canLay0, lay_strs cs h, PyData.depth, Bool.true_and, decide_eq_true_eq]
    exact decide_eq_true (by omega)
  have s2 : SeqAt.shaped (.list []) = true := by decide
  rw [if_pos ⟨s1, s2⟩]
  cases cs <;> simp [PyData.eqv, PyData.eqvAll]
theorem decL_nat (n : Nat) : decL (n : Int) = TL.numL n := tx_inj ((dec_tx n).symm.trans (SX.num_S n))
/-- the text of a value -/
def vtx : D → List Nat
  | .int i => if i < 0 then 126 :: TL.numL i.natAbs else TL.numL i.natAbs
  | .str x => 35 :: x
  | _ => []
theorem isW_len {x : List Nat} (h : isW x = true) : 1 ≤ x.length ∧ x.length ≤ 8 ∧ ∀ c ∈ x, 97 ≤ c ∧ c ≤ 122 := by
  unfold isW at h
  simp only [Bool.and_eq_true, decide_eq_true_eq, List.all_eq_true] at h
  exact ⟨h.1.1, h.1.2, h.2⟩
theorem digits_run {S : Sto} : ∀ (k m : Nat) (g : List Nat), m < 10 ^ (k + 1) → g.length + k ≤ 1000 →
    ∃ r, whileL (tB1 (cBin gGt (cVar 0) (cC (.int 9)))) (sSeq (sSet 0 (cBin gDiv (cVar 0) (cC (.int 10)))) (sSet 1 (cBin gAdd (cBin gIx (cC (.str dgt)) (cBin gMod (cVar 0) (cC (.int 10)))) (cVar 1)))) (k + 1) [some (.int m), some (.str ((48 + m % 10) :: g))] S = .nx [some (.int r), some (.str (TL.numL m ++ g))] S
  | k, m, g, hm, hg => by
    by_cases p : 9 < m
    · match k with
      | 0 => omega
      | k + 1 =>
        obtain ⟨r, ih⟩ := digits_run (S := S) k (m / 10) ((48 + m % 10) :: g) (by rw [Nat.div_lt_iff_lt_mul (by decide)]; rw [Nat.pow_succ] at hm; omega) (by simp; omega)
        refine ⟨r, ?_⟩
        have p' : (9 : Int) < m := by omega
        have q1 : ((m : Int) / 10) = ((m / 10 : Nat) : Int) := by omega
        have q2 : (((m / 10 : Nat) : Int) % 10) = ((m / 10 % 10 : Nat) : Int) := by omega
        have q3 := dgt_at (m / 10 % 10) (by omega)
        have q4 : Nat.log2 10 < 9000 := by decide
        have q5 : 1 + (g.length + 1) ≤ 1000000 := by omega
        rw [TL.numL_step (by omega : 10 ≤ m)]
        generalize m / 10 % 10 = u at *
        generalize m / 10 = v at *
        generalize 48 + m % 10 = z at *
        rw [whileL_go (S1 := S) (by simp [p'])]
        have e : (sSeq (sSet 0 (cBin gDiv (cVar 0) (cC (.int 10)))) (sSet 1 (cBin gAdd (cBin gIx (cC (.str dgt)) (cBin gMod (cVar 0) (cC (.int 10)))) (cVar 1)))) [some (.int m), some (.str (z :: g))] S = .nx [some (.int v), some (.str ((48 + u) :: z :: g))] S := by
          simp [q4, q1, q2, q3, q5]
        rw [e, wh3_nx, ih]
        simp
    · refine ⟨m, ?_⟩
      have p' : ¬ (9 : Int) < m := by omega
      rw [whileL_end (S1 := S) (by simp [p']), TL.numL_lt (by omega)]
      have : m % 10 = m := by omega
      rw [this]; rfl
def okDigs (x ds : List Nat) : Bool :=
  if (1 : Int) ≤ ds.length then (if (ds.length : Int) ≤ 16 then (if ds.all isD = true then (match ds[0]? with
    | some c => if c = 48 then (if x = [48] then (if (1000000000000000 : Int) < NumText.digitsVal ds then false else true) else false) else if (1000000000000000 : Int) < NumText.digitsVal ds then false else true
    | none => false) else false) else false) else false
def vin (x : List Nat) : D :=
  if cutL x none (some 1) = [35] then (if isW (cutL x (some 1) none) = true then .str (cutL x (some 1) none) else .non)
  else if cutL x none (some 1) = [126] then (if okDigs x (cutL x (some 1) none) = true then .int (-(NumText.digitsVal (cutL x (some 1) none) : Int)) else .non)
  else (if okDigs x x = true then .int (NumText.digitsVal x) else .non)
theorem some_of {ds : List Nat} (h : (1 : Int) ≤ ds.length) : ∃ c, ds[0]? = some c ∧ ds.isEmpty = false := by
  cases ds with
  | nil => simp at h
  | cons c r => exact ⟨c, rfl, rfl⟩
theorem sidx_dec : ∀ k : Nat, k < 10 → (Builtin.Str.occurrences (tx dgt) (tx [48 + k]) 0 (tx dgt).length 1).head? = some k := by decide +kernel
theorem sidx_ok {S : Sto} {c : Nat} (h : isD c = true) : gSidx S (.str dgt) [.str [c]] = some (.int ((c - 48 : Nat) : Int), S) := by
  unfold isD at h
  simp only [Bool.and_eq_true, decide_eq_true_eq] at h
  have e := sidx_dec (c - 48) (by omega)
  have hc : 48 + (c - 48) = c := by omega
  rw [hc] at e
  show Option.map (fun i => ((D.int (i : Nat), S) : D × Sto)) (Builtin.Str.occurrences (tx dgt) (tx [c]) 0 (tx dgt).length 1).head? = _
  rw [e]; rfl
noncomputable abbrev rdBody : EvS := sSeq (sIf (tB1 (cBin gNotIn (cVar 4) (cC (.str dgt)))) (sRet (cC .non)) (sNx)) (sSet 3 (cBin gAdd (cBin gMul (cC (.int 10)) (cVar 3)) (cM "str" gSidx (cC (.str dgt)) (cCons (cVar 4) (cNil)))))
theorem read_loop {S : Sto} {q : List D} {a b c : Option D} : ∀ (cs : List Nat) (v : Nat) (o : Option D), (v + 1) * 10 ^ cs.length ≤ 100000000000000000 →
    ∃ o', forL (q, none) (tNm 4) rdBody (cs.map fun c => .str [c]) [a, b, c, some (.int v), o] S = if cs.all isD = true then .nx [a, b, c, some (.int (cs.foldl (fun acc c => acc * 10 + (c - 48)) v : Nat)), o'] S else .rt .non S
  | [], v, o, _ => ⟨o, by rw [List.map_nil, forL_nil]; simp⟩
  | d :: r, v, o, hb => by
    have hb' : (v + 1) * 10 * 10 ^ r.length ≤ 100000000000000000 := by
      rw [List.length_cons, Nat.pow_succ, Nat.mul_comm (10 ^ r.length) 10, ← Nat.mul_assoc] at hb; exact hb
    have hp : 1 ≤ 10 ^ r.length := Nat.one_le_pow _ _ (by decide)
    have hv : (v + 1) * 10 ≤ 100000000000000000 := Nat.le_trans (Nat.le_mul_of_pos_right _ hp) hb'
    have g := mul_guard 10 v (by decide) (by omega)
    rw [List.map_cons, forL_nm]
    cases hd : isD d with
    | true =>
      have h48 : 48 ≤ d ∧ d ≤ 57 := by unfold isD at hd; simpa using hd
      obtain ⟨o', ih⟩ := read_loop (S := S) (q := q) (a := a) (b := b) (c := c) r (v * 10 + (d - 48)) (some (.str [d])) (by
        refine Nat.le_trans (Nat.mul_le_mul_right _ ?_) hb'
        omega)
      refine ⟨o', ?_⟩
      have hm := isD_mem d
      rw [hd] at hm
      have e : rdBody [a, b, c, some (.int v), some (.str [d])] S = .nx [a, b, c, some (.int (v * 10 + (d - 48) : Nat)), some (.str [d])] S := by
        have hs := sidx_ok (S := S) hd
        have hz : (10 : Int) * v + ((d - 48 : Nat) : Int) = ((v * 10 + (d - 48) : Nat) : Int) := by omega
        generalize v * 10 + (d - 48) = t at *
        generalize d - 48 = u at *
        simp [hm, g, hs, hz, -List.mem_cons]
      show fo2 _ _ _ _ (rdBody [a, b, c, some (.int v), some (.str [d])] S) = _
      rw [e, fo2_nx, ih]
      simp [hd]
    | false =>
      refine ⟨none, ?_⟩
      have hm := isD_mem d
      rw [hd] at hm
      have e : rdBody [a, b, c, some (.int v), some (.str [d])] S = .rt .non S := by
        simp [hm, -List.mem_cons]
      show fo2 _ _ _ _ (rdBody [a, b, c, some (.int v), some (.str [d])] S) = _
      rw [e, fo2_rt]
      simp [hd]
theorem cut0 {x : List Nat} : cutL x (some 0) none = x := by
  unfold cutL
  have e1 : HT.sIx x.length 0 (some 0) = 0 := by unfold HT.sIx; simp
  have e2 : HT.sIx x.length x.length none = x.length := rfl
  rw [e1, e2]; simp
theorem cut_a {c : Nat} {r : List Nat} : cutL (c :: r) none (some 1) = [c] := by
  unfold cutL HT.sIx
  simp
theorem cut_b {c : Nat} {r : List Nat} : cutL (c :: r) (some 1) none = r := by
  unfold cutL HT.sIx
  simp
theorem numL_head : ∀ n : Nat, 0 < n → ∃ c, (TL.numL n)[0]? = some c ∧ (c = 48) = False := fun n => by
  induction n using Nat.strongRecOn with
  | _ n ih =>
    intro h
    by_cases p : n < 10
    · rw [TL.numL_lt p]
      exact ⟨48 + n, rfl, eq_false (by omega)⟩
    · obtain ⟨c, h1, h2⟩ := ih (n / 10) (by omega) (by omega)
      rw [TL.numL_step (by omega)]
      refine ⟨c, ?_, h2⟩
      rw [List.getElem?_append_left (by have := (List.getElem?_eq_some_iff.mp h1).1; exact this)]
      exact h1
theorem numL_isD (n : Nat) : (TL.numL n).all isD = true := by
  rw [List.all_eq_true]
  intro c hc
  have := TL.numL_digits n c hc
  unfold isD
  simp; omega
theorem okD_num {n : Nat} {x : List Nat} (h : n ≤ 1000000000000000) (hx : n = 0 → x = [48]) : okDigs x (TL.numL n) = true := by
  have h1 : (1 : Int) ≤ (TL.numL n).length := by
    have := TL.numL_ne n
    cases e : TL.numL n with
    | nil => exact absurd e this
    | cons c r => simp; omega
  have h16 : ((TL.numL n).length : Int) ≤ 16 := by
    have := TL.numL_len (n := n) (k := 16) (by decide) (by omega)
    omega
  have hg : ((1000000000000000 : Int) < (n : Int)) = False := eq_false (by omega)
  unfold okDigs
  rw [if_pos h1, if_pos h16, if_pos (numL_isD n), TL.numL_val]
  by_cases z : n = 0
  · subst z
    rw [TL.numL_lt (by decide)]
    simp [hx rfl]
  · obtain ⟨c, e1, e2⟩ := numL_head n (by omega)
    simp [e1, e2, hg]
theorem vin_vtx {d : D} (h : IsV d) : vin (vtx d) = d := by
  rcases h with ⟨i, rfl, h1, h2⟩ | ⟨x, rfl, hw⟩
  · by_cases p : i < 0
    · have e : vtx (.int i) = 126 :: TL.numL i.natAbs := by simp [vtx, p]
      have ok := okD_num (n := i.natAbs) (x := 126 :: TL.numL i.natAbs) (by omega) (by omega)
      unfold vin
      rw [e, cut_a, cut_b, if_neg (by decide), if_pos rfl, ok, if_pos rfl, TL.numL_val]
      congr 1; omega
    · have e : vtx (.int i) = TL.numL i.natAbs := by simp [vtx, p]
      have ok := okD_num (n := i.natAbs) (x := TL.numL i.natAbs) (by omega) (fun z => by rw [z, TL.numL_lt (by decide)])
      obtain ⟨c, r, hcr⟩ : ∃ c r, TL.numL i.natAbs = c :: r := by
        cases e : TL.numL i.natAbs with
        | nil => exact absurd e (TL.numL_ne _)
        | cons c r => exact ⟨c, r, rfl⟩
      have hc := TL.numL_digits i.natAbs c (by rw [hcr]; exact List.mem_cons_self)
      have n1 : ¬ cutL (TL.numL i.natAbs) none (some 1) = [35] := by rw [hcr, cut_a]; simp; omega
      have n2 : ¬ cutL (TL.numL i.natAbs) none (some 1) = [126] := by rw [hcr, cut_a]; simp; omega
      unfold vin
      rw [e, if_neg n1, if_neg n2, ok, if_pos rfl, TL.numL_val]
      congr 1; omega
  · unfold vin
    show (if cutL (35 :: x) none (some 1) = [35] then _ else _) = _
    rw [cut_a, if_pos rfl]
    show (if isW (cutL (35 :: x) (some 1) none) = true then D.str (cutL (35 :: x) (some 1) none) else .non) = _
    rw [cut_b, if_pos hw]
theorem vin_cases (x : List Nat) : vin x = .non ∨ (∃ y, vin x = .str y ∧ isW y = true) ∨ ∃ i : Int, vin x = .int i ∧ -1000000000000000 ≤ i ∧ i ≤ 1000000000000000 := by
  have key : ∀ ds, okDigs x ds = true → (NumText.digitsVal ds : Int) ≤ 1000000000000000 := fun ds h => by
    unfold okDigs at h
    split at h
    · split at h
      · split at h
        · split at h
          · split at h
            · split at h
              · split at h
                · cases h
                · omega
              · cases h
            · split at h
              · cases h
              · omega
          · cases h
        · cases h
      · cases h
    · cases h
  unfold vin
  split
  · split
    · rename_i h; exact .inr (.inl ⟨_, rfl, h⟩)
    · exact .inl rfl
  · split
    · split
      · rename_i h; have := key _ h; exact .inr (.inr ⟨_, rfl, by omega, by omega⟩)
      · exact .inl rfl
    · split
      · rename_i h; have := key _ h; exact .inr (.inr ⟨_, rfl, by omega, by omega⟩)
      · exact .inl rfl
structure Sm (t : PyData) (k m : Nat) : Prop where
  sh : t.showable = true
  la : t.canLay0 = true
  dp : t.depth ≤ k
  sz : rsz t ≤ m
theorem Sm.ok {t : PyData} {k m : Nat} (h : Sm t k m) (hk : k ≤ 64) (hm : m ≤ 1000000) : okR t = true := by
  unfold okR SeqAt.shaped
  simp only [h.sh, h.la, Bool.and_eq_true, decide_eq_true_eq, true_and]
  exact ⟨by have := h.dp; omega, by have := h.sz; omega⟩
theorem sm_str {L : Nat} {x : List Nat} (h : TxOk L x) : Sm (.str (tx x)) 0 (10 * L + 2) :=
  ⟨by simp [PyData.showable], by simp [PyData.canLay0, strOk_tx h.2], by simp [PyData.depth], by simp only [rsz, tx_len]; have := h.1; omega⟩
theorem sm_int {i : Int} (h : -1000000000000000 ≤ i ∧ i ≤ 1000000000000000) : Sm (.int i) 0 100 :=
  ⟨by have g : i.natAbs.log2 < 1920 := Nat.lt_trans (log_small (by omega)) (by decide)
      simp [PyData.showable, g], by simp [PyData.canLay0], by simp [PyData.depth], by
      have g : i.natAbs.log2 < 64 := log_small (by omega)
      simp only [rsz]; omega⟩
theorem sm_non : Sm .none 0 4 := ⟨by simp [PyData.showable], by simp [PyData.canLay0], by simp [PyData.depth], by simp [rsz]⟩
theorem sm_bl (b : Bool) : Sm (.bool b) 0 5 := ⟨by simp [PyData.showable], by simp [PyData.canLay0], by simp [PyData.depth], by simp [rsz]⟩
theorem sm_l2 {a b : PyData} {k m m' : Nat} (h : Sm a k m) (h' : Sm b k m') : Sm (.list [a, b]) (k + 1) (m + m' + 7) :=
  ⟨by simp [PyData.showable, PyData.showableAll, h.sh, h'.sh], by simp [PyData.canLay0, PyData.canLayAll0, h.la, h'.la], by
    have := h.dp; have := h'.dp
    simp only [PyData.depth, PyData.depthAll]; omega, by
    have := h.sz; have := h'.sz
    simp only [rsz, rszs]; omega⟩
theorem sm_l1 {a : PyData} {k m : Nat} (h : Sm a k m) : Sm (.list [a]) (k + 1) (m + 5) :=
  ⟨by simp [PyData.showable, PyData.showableAll, h.sh], by simp [PyData.canLay0, PyData.canLayAll0, h.la], by
    have := h.dp
    simp only [PyData.depth, PyData.depthAll]; omega, by
    have := h.sz
    simp only [rsz, rszs]; omega⟩
theorem sm_t1 {a : PyData} {k m : Nat} (h : Sm a k m) : Sm (.tuple [a]) (k + 1) (m + 5) :=
  ⟨by simp [PyData.showable, PyData.showableAll, h.sh], by simp [PyData.canLay0, PyData.canLayAll0, h.la], by
    have := h.dp
    simp only [PyData.depth, PyData.depthAll]; omega, by
    have := h.sz
    simp only [rsz, rszs]; omega⟩
theorem repr_of {S : Sto} {d : D} {t : PyData} {k m : Nat} (e : treeD S 60 d = some t) (h : Sm t k m) (hk : k ≤ 64) (hm : m ≤ 1000000) : gRepr S d = some (.str (shownL t)) := by
  unfold gRepr
  rw [e]
  dsimp only
  rw [if_pos (h.ok hk hm)]
theorem tree_ws (S : Sto) (n : Nat) : ∀ ws : List (List Nat), mapO (treeD S n) (ws.map D.str) = some (ws.map fun w => PyData.str (tx w))
  | [] => rfl
  | c :: r => by
    show (match treeD S n (D.str c), mapO (treeD S n) (r.map D.str) with | some t, some ts => some (t :: ts) | _, _ => none) = _
    rw [tree_ws S n r]
    cases n <;> rfl
theorem lay_ws : ∀ ws : List (List Nat), (∀ w ∈ ws, ∀ c ∈ w, c < 1114112) → PyData.canLayAll0 (ws.map fun w => PyData.str (tx w)) = true
  | [], _ => by simp [PyData.canLayAll0]
  | c :: r, h => by
    simp only [List.map_cons, PyData.canLayAll0, PyData.canLay0, Bool.and_eq_true]
    exact ⟨strOk_tx (h c List.mem_cons_self), lay_ws r fun d hd => h d (List.mem_cons_of_mem _ hd)⟩
theorem depth_ws : ∀ ws : List (List Nat), PyData.depthAll (ws.map fun w => PyData.str (tx w)) ≤ 1
  | [] => by simp [PyData.depthAll]
  | c :: r => by
    have := depth_ws r
    simp only [List.map_cons, PyData.depthAll, PyData.depth]
    omega
theorem any_ws (x : List Nat) : ∀ ws : List (List Nat), ((ws.map fun w => PyData.str (tx w)).any fun z => PyData.eqv z (.str (tx x))) = decide (x ∈ ws)
  | [] => rfl
  | w :: r => by
    rw [List.map_cons, List.any_cons, any_ws x r, Bool.eq_iff_iff]
    simp only [PyData.eqv, Bool.or_eq_true, beq_iff_eq, decide_eq_true_eq, List.mem_cons, tx_eq]
    exact or_congr eq_comm Iff.rfl
theorem in_ws {S : Sto} {x : List Nat} {ws : List (List Nat)} (hx : ∀ c ∈ x, c < 1114112) (hw : ∀ w ∈ ws, ∀ c ∈ w, c < 1114112) : inL S (.str x) (.tup (ws.map .str)) = some (decide (x ∈ ws)) ∧ inL S (.str x) (.lst (ws.map .str)) = some (decide (x ∈ ws)) := by
  have e0 : treeD S 60 (.str x) = some (.str (tx x)) := rfl
  have e1 : treeD S 60 (.tup (ws.map .str)) = some (.tuple (ws.map fun w => PyData.str (tx w))) := by
    show (mapO (treeD S 59) _).map PyData.tuple = _
    rw [tree_ws]; rfl
  have e2 : treeD S 60 (.lst (ws.map .str)) = some (.list (ws.map fun w => PyData.str (tx w))) := by
    show (mapO (treeD S 59) _).map PyData.list = _
    rw [tree_ws]; rfl
  have s0 := shaped_str hx
  have s1 : SeqAt.shaped (.tuple (ws.map fun w => PyData.str (tx w))) = true := by
    unfold SeqAt.shaped
    have := depth_ws ws
    simp only [PyData.canLay0, lay_ws ws hw, PyData.depth, Bool.true_and]
    exact decide_eq_true (by omega)
  have s2 : SeqAt.shaped (.list (ws.map fun w => PyData.str (tx w))) = true := by
    unfold SeqAt.shaped
    have := depth_ws ws
    simp only [PyData.canLay0, lay_ws ws hw, PyData.depth, Bool.true_and]
    exact decide_eq_true (by omega)
  have a := any_ws x ws
  constructor
  · have q : inL S (.str x) (.tup (ws.map .str)) = (match treeD S 60 (.str x), treeD S 60 (.tup (ws.map .str)) with
      | some t, some (.list us) => if SeqAt.shaped t = true ∧ SeqAt.shaped (.list us) = true then some (us.any fun z => PyData.eqv z t) else none
      | some t, some (.tuple us) => if SeqAt.shaped t = true ∧ SeqAt.shaped (.tuple us) = true then some (us.any fun z => PyData.eqv z t) else none
      | _, _ => none) := by rcases x with _ | ⟨c, _ | ⟨d, r⟩⟩ <;> rfl
    rw [q, e0, e1]
    dsimp only
    rw [if_pos ⟨s0, s1⟩, a]
  · have q : inL S (.str x) (.lst (ws.map .str)) = (match treeD S 60 (.str x), treeD S 60 (.lst (ws.map .str)) with
      | some t, some (.list us) => if SeqAt.shaped t = true ∧ SeqAt.shaped (.list us) = true then some (us.any fun z => PyData.eqv z t) else none
      | some t, some (.tuple us) => if SeqAt.shaped t = true ∧ SeqAt.shaped (.tuple us) = true then some (us.any fun z => PyData.eqv z t) else none
      | _, _ => none) := by rcases x with _ | ⟨c, _ | ⟨d, r⟩⟩ <;> rfl
    rw [q, e0, e2]
    dsimp only
    rw [if_pos ⟨s0, s2⟩, a]
abbrev resW : List (List Nat) := TL.spl [32] 0 [] resTx
theorem resW_ok : ∀ w ∈ resW, ∀ c ∈ w, c < 1114112 := fun w hw c hc => by have := (isW_len (res_words.2 w hw)).2.2 c hc; omega
def isT (x : List Nat) : Bool := isW x && !decide (x ∈ resW)
theorem in_l {S : Sto} {x : List Nat} (hx : ∀ c ∈ x, c < 1114112) : gIn S (.str x) (.lst (resW.map D.str)) = some (.bl (decide (x ∈ resW))) := by
  unfold gIn
  rw [(in_ws hx resW_ok).2]; rfl
theorem notin_l {S : Sto} {x : List Nat} (hx : ∀ c ∈ x, c < 1114112) : gNotIn S (.str x) (.lst (resW.map D.str)) = some (.bl (!decide (x ∈ resW))) := by
  unfold gNotIn
  rw [(in_ws hx resW_ok).2]; rfl
theorem cut_last {b : List Nat} {l : Nat} : cutL (b ++ [l]) (some (-1)) none = [l] ∧ cutL (b ++ [l]) none (some (-1)) = b := by
  unfold cutL HT.sIx
  simp
  constructor
  · have : ((-1 : Int) + ((b.length : Int) + 1)).toNat = b.length := by omega
    rw [this]; simp
  · have : ((-1 : Int) + ((b.length : Int) + 1)).toNat = b.length := by omega
    rw [this]; simp
theorem cut_nil : cutL ([] : List Nat) (some (-1)) none = [] := by unfold cutL HT.sIx; simp
theorem cut_head {a r : List Nat} : cutL (a ++ r) none (some (a.length : Int)) = a := by
  unfold cutL HT.sIx
  simp
  rw [if_neg (by omega)]
  simp
theorem cut_mid {a b : List Nat} {l : Nat} : cutL (a ++ 91 :: (b ++ [l])) (some ((a.length : Int) + 1)) (some (-1)) = b := by
  unfold cutL HT.sIx
  have e1 : ¬ ((a.length : Int) + 1 < 0) := by omega
  have e2 : ((a.length : Int) + 1).toNat = a.length + 1 := by omega
  simp only [e1, if_false, List.length_append, List.length_cons, List.length_nil, e2]
  have e3 : ((-1 : Int) + ((a.length + (b.length + (0 + 1) + 1) : Nat) : Int)).toNat = a.length + b.length + 1 := by omega
  rw [if_pos (by decide), e3]
  have e4 : min (a.length + 1) (a.length + (b.length + (0 + 1) + 1)) = a.length + 1 := by omega
  rw [e4]
  have e5 : a.length + b.length + 1 - (a.length + 1) = b.length := by omega
  have e6 : List.drop (a.length + 1) a = [] := by simp
  rw [e5, List.drop_append, e6]
  simp
theorem at_last {a : List Nat} {l : Nat} : atI (a ++ [l]) (-1) = some l := by
  unfold atI ixN
  simp
  rw [if_pos (by omega)]
  have : ((-1 : Int) + ((a.length : Int) + 1)).toNat = a.length := by omega
  rw [this]
  simp
def nonB : D → Bool
  | .non => true
  | _ => false
def vcell (a b : List Nat) : D := if cutL b (some (-1)) none = [93] then (if nonB (vin (cutL b none (some (-1)))) = true then .non else if isT a = true then .tup [.str a, vin (cutL b none (some (-1)))] else .non) else .non
noncomputable abbrev scC : EvB := tAndB (tB1 (cBin gLt (cVar 1) (cB gLen (cCons (cVar 0) (cNil))))) (tB1 (cBin gNe (cBin gIx (cVar 0) (cVar 1)) (cC (.str [91]))))
noncomputable abbrev scB : EvS := sSet 1 (cBin gAdd (cVar 1) (cC (.int 1)))
/-- the first bracket's place, or the length -/
theorem scan {S : Sto} {a r : List Nat} {o : Option D} (hl : (a ++ r).length ≤ 1000000) (ha : 91 ∉ a) (hr : r = [] ∨ ∃ b, r = 91 :: b) : ∀ (m k fuel : Nat), k + m = a.length → m < fuel →
    whileL scC scB fuel [some (.str (a ++ r)), some (.int k), o] S = .nx [some (.str (a ++ r)), some (.int a.length), o] S
  | 0, k, fuel + 1, hk, _ => by
    have hk' : k = a.length := by omega
    subst hk'
    refine whileL_end ?_
    rcases hr with rfl | ⟨b, rfl⟩
    · simp only [List.append_nil] at hl ⊢
      simp [hl]
    · have e0 : (a ++ 91 :: b)[a.length]? = some 91 := by simp
      have e1 : ((a.length : Int) < ((a ++ 91 :: b).length : Int)) = True := eq_true (by simp; omega)
      generalize a ++ 91 :: b = x at *
      simp [hl, e0, e1]
  | m + 1, k, fuel + 1, hk, hf => by
    have hka : k < a.length := by omega
    have e0 : (a ++ r)[k]? = some a[k] := by rw [List.getElem?_append_left hka, List.getElem?_eq_getElem hka]
    have hne : (a[k] = 91) = False := eq_false (fun e => ha (e ▸ List.getElem_mem hka))
    have e1 : ((k : Int) < ((a ++ r).length : Int)) = True := eq_true (by simp; omega)
    have ih := scan (S := S) (a := a) (r := r) (o := o) hl ha hr m (k + 1) fuel (by omega) (by omega)
    generalize a ++ r = x at *
    generalize a[k] = c at *
    rw [whileL_go (S1 := S) (by simp [hl, e0, e1, hne])]
    have e : scB [some (.str x), some (.int k), o] S = .nx [some (.str x), some (.int (k + 1 : Nat)), o] S := by simp
    rw [e, wh3_nx, ih]
abbrev rfT : List Nat := [114, 101, 102, 117, 115, 101, 100]
abbrev rdT : List Nat := [114, 101, 97, 100]
theorem _root_.Wk.Sm.up {t : PyData} {k k' m : Nat} (h : Sm t k m) (hk : k ≤ k') : Sm t k' m := ⟨h.sh, h.la, Nat.le_trans h.dp hk, h.sz⟩
theorem rf_ok : TxOk 7 rfT := ⟨by decide, by decide⟩
theorem rd_ok : TxOk 4 rdT := ⟨by decide, by decide⟩
theorem tree_l2 {S : Sto} {x : List Nat} {d : D} {t : PyData} (h : treeD S 59 d = some t) : treeD S 60 (.lst [.str x, d]) = some (.list [.str (tx x), t]) := by
  show (mapO (treeD S 59) [.str x, d]).map PyData.list = _
  simp only [mapO, h]
  rfl
theorem tree_o {S : Sto} {n m : Nat} {ds : List D} {ts : List PyData} (h : S[n]? = some (.lst ds)) (ht : mapO (treeD S m) ds = some ts) : treeD S (m + 1) (.loc n) = some (.list ts) := by
  show (match S[n]? with | some (.lst ds) => (mapO (treeD S m) ds).map PyData.list | _ => none) = _
  simp only [h, ht]
  rfl
theorem mapO_s {S : Sto} {m : Nat} {x : List Nat} : mapO (treeD S m) [.str x] = some [.str (tx x)] := by cases m <;> rfl
theorem mapO_ss {S : Sto} {m : Nat} {x y : List Nat} : mapO (treeD S m) [.str x, .str y] = some [.str (tx x), .str (tx y)] := by cases m <;> rfl
end Wk

/-! plain facts: loops, sorted lists, data -/
namespace Wk
open PySem PySem.Spec L2 Mp
open PyProof.Rows hiding St
/-! ### loops -/
theorem forL_g {it : Items} {tg : Tgt} {s : EvS} {d : D} {ds : List D} {δ δ1 : Sl} {S : Sto} (hok : okS it S) (h : tg d δ S = some δ1) : forL it tg s (d :: ds) δ S = fo2 it tg s ds (s δ1 S) := by
  conv => lhs; unfold forL
  rw [if_pos hok]
  simp only [h]
  generalize s δ1 S = o
  cases o <;> rfl
theorem forL_e {it : Items} {tg : Tgt} {s : EvS} {δ : Sl} {S : Sto} (hok : okS it S) : forL it tg s [] δ S = .nx δ S := by
  unfold forL; exact if_pos hok
/-- a loop that runs through: I ds δ S holds with the rest ds ahead -/
theorem for_inv {it : Items} {tg : Tgt} {s : EvS} {I : List D → Sl → Sto → Prop} (hok : ∀ ds δ S, I ds δ S → okS it S)
    (step : ∀ d ds δ S, I (d :: ds) δ S → ∃ δ1 δ2 S2, tg d δ S = some δ1 ∧ (s δ1 S = .nx δ2 S2 ∨ s δ1 S = .ct δ2 S2) ∧ I ds δ2 S2) : ∀ ds δ S, I ds δ S → ∃ δ' S', forL it tg s ds δ S = .nx δ' S' ∧ I [] δ' S'
  | [], δ, S, h => ⟨δ, S, forL_e (hok _ _ _ h), h⟩
  | d :: ds, δ, S, h => by
    obtain ⟨δ1, δ2, S2, h1, h2, h3⟩ := step d ds δ S h
    obtain ⟨δ', S', e, h4⟩ := for_inv hok step ds δ2 S2 h3
    refine ⟨δ', S', ?_, h4⟩
    rw [forL_g (hok _ _ _ h) h1]
    rcases h2 with h2 | h2
    · rw [h2, fo2_nx, e]
    · rw [h2, fo2_ct, e]
/-- .. whose body leaves at some item -/
theorem for_rt {it : Items} {tg : Tgt} {s : EvS} {I : List D → Sl → Sto → Prop} {R : Out → Prop} (hok : ∀ ds δ S, I ds δ S → okS it S)
    (step : ∀ d ds δ S, I (d :: ds) δ S → ∃ δ1, tg d δ S = some δ1 ∧ ((∃ δ2 S2, (s δ1 S = .nx δ2 S2 ∨ s δ1 S = .ct δ2 S2) ∧ I ds δ2 S2) ∨ (fo2 it tg s ds (s δ1 S) = s δ1 S ∧ R (s δ1 S)))) : ∀ ds δ S, I ds δ S → (∃ δ' S', forL it tg s ds δ S = .nx δ' S' ∧ I [] δ' S') ∨ R (forL it tg s ds δ S)
  | [], δ, S, h => .inl ⟨δ, S, forL_e (hok _ _ _ h), h⟩
  | d :: ds, δ, S, h => by
    obtain ⟨δ1, h1, h2⟩ := step d ds δ S h
    rw [forL_g (hok _ _ _ h) h1]
    rcases h2 with ⟨δ2, S2, h2, h3⟩ | ⟨h2, h3⟩
    · have ih := for_rt hok step ds δ2 S2 h3
      rcases h2 with h2 | h2
      · rw [h2, fo2_nx]; exact ih
      · rw [h2, fo2_ct]; exact ih
    · right; rw [h2]; exact h3
/-- a comprehension, step by step -/
theorem lc_inv {it : Items} {tg : Tgt} {t : EvB} {a : Ev} {vs : List Nat} {δ : Sl} {I : List D → List D → Sto → Prop} (hok : ∀ ds acc S, I ds acc S → okS it S ∧ acc.length + ds.length ≤ 1000000)
    (step : ∀ d ds acc S, I (d :: ds) acc S → ∃ δ1 S1, tg d (wipeD δ vs) S = some δ1 ∧ ((t δ1 S = .ok true S1 ∧ ∃ y S2, a δ1 S1 = .ok y S2 ∧ I ds (acc ++ [y]) S2) ∨ (t δ1 S = .ok false S1 ∧ I ds acc S1))) : ∀ ds acc S, I ds acc S → ∃ ys S', lcL it tg t a vs δ ds S acc = .ok ys S' ∧ I [] ys S'
  | [], acc, S, h => ⟨acc, S, by unfold lcL; exact if_pos (hok _ _ _ h).1, h⟩
  | d :: ds, acc, S, h => by
    obtain ⟨h0, hl⟩ := hok _ _ _ h
    rw [List.length_cons] at hl
    obtain ⟨δ1, S1, h1, h2⟩ := step d ds acc S h
    rcases h2 with ⟨h2, y, S2, h3, h4⟩ | ⟨h2, h4⟩
    · obtain ⟨ys, S', e, h5⟩ := lc_inv hok step ds (acc ++ [y]) S2 h4
      refine ⟨ys, S', ?_, h5⟩
      unfold lcL
      rw [if_pos h0]
      simp only [h1, h2, h3, Res.nox, Res.bind_ok, if_true]
      rw [if_pos (by omega), e]
    · obtain ⟨ys, S', e, h5⟩ := lc_inv hok step ds acc S1 h4
      refine ⟨ys, S', ?_, h5⟩
      unfold lcL
      rw [if_pos h0]
      simp only [h1, h2, Res.nox, Res.bind_ok]
      rw [if_neg (by decide), e]
/-- .. that maps, over a list that stands -/
theorem lc_map {it : Items} {tg : Tgt} {t : EvB} {a : Ev} {vs : List Nat} {δ : Sl} {S : Sto} {f : D → D} {ds : List D} (h0 : okS it S) (hf : ∀ d ∈ ds, ∃ δ1, tg d (wipeD δ vs) S = some δ1 ∧ t δ1 S = .ok true S ∧ a δ1 S = .ok (f d) S) (acc : List D) (hl : acc.length + ds.length ≤ 1000000) : lcL it tg t a vs δ ds S acc = .ok (acc ++ ds.map f) S := by
  induction ds generalizing acc with
  | nil => unfold lcL; rw [if_pos h0]; simp
  | cons d ds ih =>
    rw [List.length_cons] at hl
    obtain ⟨δ1, h1, h2, h3⟩ := hf d List.mem_cons_self
    unfold lcL
    rw [if_pos h0]
    simp only [h1, h2, h3, Res.nox, Res.bind_ok, if_true]
    rw [if_pos (by omega), ih (fun e he => hf e (List.mem_cons_of_mem _ he)) (acc ++ [f d]) (by simp; omega)]
    simp
theorem asL_o {S : Sto} {n : Nat} {ds : List D} (h : S[n]? = some (.lst ds)) : asL S (.loc n) = some ds := by
  show (match S[n]? with | some (.lst ds) => some ds | _ => none) = _
  rw [h]
theorem gLen_o {S : Sto} {n : Nat} {ds : List D} (h : S[n]? = some (.lst ds)) : gLen S [.loc n] = some (.int ds.length, S) := by
  have e : lenD S (.loc n) = some ds.length := by
    show (asL S (.loc n)).map List.length = _
    rw [asL_o h]; rfl
  unfold gLen; simp [e]
/-! ### insertion -/
section
variable {α : Type}
def insL (le : α → α → Bool) (k : α) : List α → List α
  | [] => [k]
  | x :: r => if le x k = true then x :: insL le k r else k :: x :: r
def plc (le : α → α → Bool) (k : α) : List α → Nat
  | [] => 0
  | x :: r => if le x k = true then plc le k r + 1 else 0
variable {le : α → α → Bool}
theorem plc_le (k : α) : ∀ l : List α, plc le k l ≤ l.length
  | [] => Nat.le_refl _
  | x :: r => by
    have := plc_le k r
    unfold plc
    split <;> simp <;> omega
theorem plc_before (k : α) : ∀ (l : List α) (i : Nat) (x : α), i < plc le k l → l[i]? = some x → le x k = true
  | [], i, x, h, _ => by simp [plc] at h
  | y :: r, i, x, h, e => by
    unfold plc at h
    split at h
    · rename_i hy
      cases i with
      | zero => simp at e; subst e; exact hy
      | succ i => exact plc_before k r i x (by omega) (by simpa using e)
    · omega
theorem plc_at (k : α) : ∀ (l : List α) (x : α), l[plc le k l]? = some x → le x k = false
  | [], x, e => by simp at e
  | y :: r, x, e => by
    unfold plc at e
    split at e
    · exact plc_at k r x (by simpa using e)
    · rename_i hy
      simp at e; subst e; simpa using hy
theorem insL_cut (k : α) : ∀ l : List α, insL le k l = l.take (plc le k l) ++ [k] ++ l.drop (plc le k l)
  | [] => rfl
  | x :: r => by
    unfold insL plc
    split
    · rw [insL_cut k r]; simp
    · simp
theorem insL_perm (k : α) : ∀ l : List α, (insL le k l).Perm (k :: l)
  | [] => .refl _
  | x :: r => by
    unfold insL
    split
    · exact (List.Perm.cons x (insL_perm k r)).trans (List.Perm.swap ..)
    · exact .refl _
theorem insL_pw (tr : ∀ a b c, le a b = true → le b c = true → le a c = true) (to : ∀ a b, (le a b || le b a) = true) (k : α) : ∀ l : List α, l.Pairwise (fun a b => le a b = true) → (insL le k l).Pairwise (fun a b => le a b = true)
  | [], _ => by simp [insL]
  | x :: r, h => by
    unfold insL
    rw [List.pairwise_cons] at h
    split
    · rename_i hx
      rw [List.pairwise_cons]
      refine ⟨fun y hy => ?_, insL_pw tr to k r h.2⟩
      rcases List.mem_cons.mp ((insL_perm k r).mem_iff.mp hy) with e | e
      · rw [e]; exact hx
      · exact h.1 y e
    · rename_i hx
      have hk : le k x = true := by
        have := to x k
        rw [show le x k = false by simpa using hx] at this
        simpa using this
      rw [List.pairwise_cons]
      refine ⟨fun y hy => ?_, by rw [List.pairwise_cons]; exact h⟩
      rcases List.mem_cons.mp hy with e | e
      · rw [e]; exact hk
      · exact tr _ _ _ hk (h.1 y e)
def insAll (le : α → α → Bool) (xs acc : List α) : List α := xs.foldl (fun acc k => insL le k acc) acc
theorem insAll_ok (tr : ∀ a b c, le a b = true → le b c = true → le a c = true) (to : ∀ a b, (le a b || le b a) = true) : ∀ xs acc : List α, acc.Pairwise (fun a b => le a b = true) → (insAll le xs acc).Pairwise (fun a b => le a b = true) ∧ (insAll le xs acc).Perm (xs ++ acc)
  | [], acc, h => ⟨h, .refl _⟩
  | x :: r, acc, h => by
    obtain ⟨a, b⟩ := insAll_ok tr to r (insL le x acc) (insL_pw tr to x acc h)
    refine ⟨a, ?_⟩
    refine (b.trans ((insL_perm x acc).append_left r)).trans ?_
    exact List.perm_middle
theorem insAll_sort (tr : ∀ a b c, le a b = true → le b c = true → le a c = true) (to : ∀ a b, (le a b || le b a) = true) (xs : List α) (as : ∀ a b, a ∈ xs → b ∈ xs → le a b = true → le b a = true → a = b) : insAll le xs [] = xs.mergeSort le := by
  obtain ⟨a, b⟩ := insAll_ok tr to xs [] .nil
  rw [List.append_nil] at b
  have c := List.pairwise_mergeSort tr to xs
  have d := List.mergeSort_perm xs le
  exact List.Perm.eq_of_pairwise (fun x y hx hy h1 h2 => as x y (b.mem_iff.mp hx) (d.mem_iff.mp hy) h1 h2) a c (b.trans d.symm)
end
/-! ### values and cells as data -/
def vt : D → PyData
  | .int i => .int i
  | .str x => .str (tx x)
  | .bl b => .bool b
  | _ => .none
def ct : D → PyData
  | .tup [.str t, k] => .tuple [.str (tx t), vt k]
  | _ => .none
def IsC (d : D) : Prop := ∃ t k, d = .tup [.str t, k] ∧ isT t = true ∧ IsV k
theorem isT_W {t : List Nat} (h : isT t = true) : isW t = true := by
  unfold isT at h
  rw [Bool.and_eq_true] at h; exact h.1
theorem tree_V {S : Sto} {n : Nat} {d : D} (h : IsV d) : treeD S n d = some (vt d) := by
  rcases h with ⟨i, rfl, _⟩ | ⟨x, rfl, _⟩ <;> cases n <;> rfl
theorem tree_C {S : Sto} {n : Nat} {d : D} (h : IsC d) : treeD S (n + 1) d = some (ct d) := by
  obtain ⟨t, k, rfl, _, hk⟩ := h
  show (mapO (treeD S n) [.str t, k]).map PyData.tuple = _
  have e : treeD S n (.str t) = some (.str (tx t)) := by cases n <;> rfl
  simp only [mapO, e, tree_V hk]
  rfl
theorem word_tx {x : List Nat} (h : isW x = true) : TxOk 8 x := by
  have hl := isW_len h
  exact ⟨hl.2.1, fun c hc => by have := hl.2.2 c hc; omega⟩
theorem Sm.mono {t : PyData} {k k' m m' : Nat} (h : Sm t k m) (hk : k ≤ k') (hm : m ≤ m') : Sm t k' m' := ⟨h.sh, h.la, Nat.le_trans h.dp hk, Nat.le_trans h.sz hm⟩
theorem sm_V {d : D} (h : IsV d) : Sm (vt d) 0 100 := by
  rcases h with ⟨i, rfl, h1, h2⟩ | ⟨x, rfl, hw⟩
  · exact sm_int ⟨h1, h2⟩
  · exact (sm_str (word_tx hw)).mono (by decide) (by decide)
theorem sm_t2 {a b : PyData} {k m m' : Nat} (h : Sm a k m) (h' : Sm b k m') : Sm (.tuple [a, b]) (k + 1) (m + m' + 7) :=
  ⟨by simp [PyData.showable, PyData.showableAll, h.sh, h'.sh], by simp [PyData.canLay0, PyData.canLayAll0, h.la, h'.la], by
    have := h.dp; have := h'.dp
    simp only [PyData.depth, PyData.depthAll]; omega, by
    have := h.sz; have := h'.sz
    simp only [rsz, rszs]; omega⟩
theorem sm_C {d : D} (h : IsC d) : Sm (ct d) 1 300 := by
  obtain ⟨t, k, rfl, ht, hk⟩ := h
  exact (sm_t2 (sm_str (word_tx (isT_W ht))) (sm_V hk)).mono (by decide) (by decide)
theorem sm_all {k m : Nat} : ∀ {ts : List PyData}, (∀ t ∈ ts, Sm t k m) → PyData.showableAll ts = true ∧ PyData.canLayAll0 ts = true ∧ PyData.depthAll ts ≤ k + 1 ∧ rszs ts ≤ ts.length * (m + 2)
  | [], _ => ⟨by simp [PyData.showableAll], by simp [PyData.canLayAll0], by simp [PyData.depthAll], by simp [rszs]⟩
  | t :: ts, h => by
    obtain ⟨a, b, c, d⟩ := sm_all (k := k) (m := m) fun u hu => h u (List.mem_cons_of_mem _ hu)
    have h0 := h t List.mem_cons_self
    refine ⟨by simp [PyData.showableAll, h0.sh, a], by simp [PyData.canLayAll0, h0.la, b], ?_, ?_⟩
    · have := h0.dp
      simp only [PyData.depthAll]; omega
    · have := h0.sz
      simp only [rszs, List.length_cons, Nat.add_mul]; omega
theorem sm_list {ts : List PyData} {k m : Nat} (h : ∀ t ∈ ts, Sm t k m) : Sm (.list ts) (k + 2) (ts.length * (m + 2) + 3) := by
  obtain ⟨a, b, c, d⟩ := sm_all h
  exact ⟨by simpa [PyData.showable] using a, by simpa [PyData.canLay0] using b, by simp only [PyData.depth]; omega, by simp only [rsz]; omega⟩
theorem sm_tuple {ts : List PyData} {k m : Nat} (h : ∀ t ∈ ts, Sm t k m) : Sm (.tuple ts) (k + 2) (ts.length * (m + 2) + 3) := by
  obtain ⟨a, b, c, d⟩ := sm_all h
  exact ⟨by simpa [PyData.showable] using a, by simpa [PyData.canLay0] using b, by simp only [PyData.depth]; omega, by simp only [rsz]; omega⟩
theorem mapO_of {f : D → Option PyData} {g : D → PyData} : ∀ {ds : List D}, (∀ d ∈ ds, f d = some (g d)) → mapO f ds = some (ds.map g)
  | [], _ => rfl
  | d :: ds, h => by
    unfold mapO
    rw [h d List.mem_cons_self, mapO_of fun e he => h e (List.mem_cons_of_mem _ he)]; rfl
theorem tree_lst {S : Sto} {n : Nat} {ds : List D} {g : D → PyData} (h : ∀ d ∈ ds, treeD S n d = some (g d)) : treeD S (n + 1) (.lst ds) = some (.list (ds.map g)) := by
  show (mapO (treeD S n) ds).map PyData.list = _
  rw [mapO_of h]; rfl
theorem tree_tup {S : Sto} {n : Nat} {ds : List D} {g : D → PyData} (h : ∀ d ∈ ds, treeD S n d = some (g d)) : treeD S (n + 1) (.tup ds) = some (.tuple (ds.map g)) := by
  show (mapO (treeD S n) ds).map PyData.tuple = _
  rw [mapO_of h]; rfl
theorem tree_loc {S : Sto} {n m : Nat} {ds : List D} {g : D → PyData} (hS : S[m]? = some (.lst ds)) (h : ∀ d ∈ ds, treeD S n d = some (g d)) : treeD S (n + 1) (.loc m) = some (.list (ds.map g)) := by
  show (match S[m]? with | some (.lst ds) => (mapO (treeD S n) ds).map PyData.list | _ => none) = _
  rw [hS]
  show (mapO (treeD S n) ds).map PyData.list = _
  rw [mapO_of h]; rfl
theorem Sm.shaped {t : PyData} {k m : Nat} (h : Sm t k m) (hk : k ≤ 64) : SeqAt.shaped t = true := by
  unfold SeqAt.shaped
  have := h.dp
  simp only [h.la, Bool.true_and]
  exact decide_eq_true (by omega)
theorem eq_of {S : Sto} {a b : D} {t u : PyData} {k m k' m' : Nat} (ha : treeD S 60 a = some t) (hb : treeD S 60 b = some u) (ht : Sm t k m) (hu : Sm u k' m') (hk : k ≤ 64) (hk' : k' ≤ 64) : gEq0 S a b = some (.bl (PyData.eqv t u)) ∧ gNe0 S a b = some (.bl (!PyData.eqv t u)) := by
  unfold gEq0 gNe0
  rw [ha, hb]
  dsimp only
  rw [if_pos ⟨ht.shaped hk, hu.shaped hk'⟩, if_pos ⟨ht.shaped hk, hu.shaped hk'⟩]
  exact ⟨rfl, rfl⟩
end Wk

/-! plain facts: values and cells in order -/
namespace Wk
open PySem PySem.Spec L2 Mp
open PyProof.Rows hiding St
open PySem.W (dataLt alike AllAlike Sortable dataLe)
/-- one key ahead of another -/
def vah : D → D → Bool
  | .int i, .int j => decide (i < j)
  | .str x, .str y => decide (x < y)
  | .int _, .str _ => true
  | _, _ => false
def cah : D → D → Bool
  | .tup [.str t, k], .tup [.str u, l] => if t = u then vah k l else decide (t < u)
  | _, _ => false
theorem krd_i (i : Int) : krd (.int i) = .tuple [.int 0, .int i, .str Str.empty] := rfl
theorem krd_s (x : Str) : krd (.str x) = .tuple [.int 1, .int 0, .str x] := rfl
theorem dl_nil : PyProof.Rows.lexLt itemOrd (PySem.W.keyToksAll []) (PySem.W.keyToksAll []) = false := by decide
theorem str_lt (x y : List Nat) : dataLt (.str (tx x)) (.str (tx y)) = decide (x < y) := by
  rw [PySem.W.dataLt_str, tx_list, tx_list]
theorem eqv_int (i j : Int) : (PyData.eqv (.int i) (.int j) = true) ↔ i = j := by simp [PyData.eqv]
theorem eqv_str (x y : Str) : (PyData.eqv (.str x) (.str y) = true) ↔ x = y := by simp [PyData.eqv]
theorem key_lt {a b : D} (ha : IsV a) (hb : IsV b) : dataLt (krd (vt a)) (krd (vt b)) = vah a b ∧ alike (krd (vt a)) (krd (vt b)) = true := by
  rcases ha with ⟨i, rfl, _⟩ | ⟨x, rfl, _⟩ <;> rcases hb with ⟨j, rfl, _⟩ | ⟨y, rfl, _⟩
  · show dataLt (krd (.int i)) (krd (.int j)) = _ ∧ alike (krd (.int i)) (krd (.int j)) = true
    rw [krd_i, krd_i]
    refine ⟨?_, by simp [alike, PySem.W.alikeAll]⟩
    rw [PySem.W.dataLt_tuple, PySem.W.dataLt_cons (by simp [alike]), if_pos (by simp [PyData.eqv]), PySem.W.dataLt_cons (by simp [alike])]
    by_cases h : i = j
    · rw [if_pos ((eqv_int i j).mpr h), PySem.W.dataLt_cons (by simp [alike]), if_pos (by simp [PyData.eqv]), dl_nil]
      simp [vah, h]
    · rw [if_neg (fun q => h ((eqv_int i j).mp q)), PySem.W.dataLt_int]; rfl
  · show dataLt (krd (.int i)) (krd (.str (tx y))) = _ ∧ alike (krd (.int i)) (krd (.str (tx y))) = true
    rw [krd_i, krd_s]
    refine ⟨?_, by simp [alike, PySem.W.alikeAll]⟩
    rw [PySem.W.dataLt_tuple, PySem.W.dataLt_cons (by simp [alike]), if_neg (by simp [PyData.eqv]), PySem.W.dataLt_int]; rfl
  · show dataLt (krd (.str (tx x))) (krd (.int j)) = _ ∧ alike (krd (.str (tx x))) (krd (.int j)) = true
    rw [krd_i, krd_s]
    refine ⟨?_, by simp [alike, PySem.W.alikeAll]⟩
    rw [PySem.W.dataLt_tuple, PySem.W.dataLt_cons (by simp [alike]), if_neg (by simp [PyData.eqv]), PySem.W.dataLt_int]; rfl
  · show dataLt (krd (.str (tx x))) (krd (.str (tx y))) = _ ∧ alike (krd (.str (tx x))) (krd (.str (tx y))) = true
    rw [krd_s, krd_s]
    refine ⟨?_, by simp [alike, PySem.W.alikeAll]⟩
    rw [PySem.W.dataLt_tuple, PySem.W.dataLt_cons (by simp [alike]), if_pos (by simp [PyData.eqv]), PySem.W.dataLt_cons (by simp [alike]), if_pos (by simp [PyData.eqv]), PySem.W.dataLt_cons (by simp [alike])]
    by_cases h : x = y
    · rw [if_pos ((eqv_str _ _).mpr (by rw [h])), dl_nil]
      simp [vah, h]
    · rw [if_neg (fun q => h (tx_inj ((eqv_str _ _).mp q))), str_lt]; rfl
theorem kdc {t : List Nat} {k : D} (hk : IsV k) : ∃ ks, krd (vt k) = .tuple ks ∧ kd_cell_rank (ct (.tup [.str t, k])) = .tuple (.str (tx t) :: ks) := by
  rcases hk with ⟨i, rfl, _⟩ | ⟨x, rfl, _⟩
  · exact ⟨_, rfl, rfl⟩
  · exact ⟨_, rfl, rfl⟩
theorem cell_lt {a b : D} (ha : IsC a) (hb : IsC b) : dataLt (kd_cell_rank (ct a)) (kd_cell_rank (ct b)) = cah a b ∧ alike (kd_cell_rank (ct a)) (kd_cell_rank (ct b)) = true := by
  obtain ⟨t, k, rfl, ht, hk⟩ := ha
  obtain ⟨u, l, rfl, hu, hl⟩ := hb
  obtain ⟨ks, e1, e2⟩ := kdc (t := t) hk
  obtain ⟨ls, e3, e4⟩ := kdc (t := u) hl
  obtain ⟨h1, h2⟩ := key_lt hk hl
  rw [e1, e3] at h1 h2
  rw [e2, e4]
  refine ⟨?_, by simp only [alike, PySem.W.alikeAll, Bool.true_and]; simpa [alike] using h2⟩
  rw [PySem.W.dataLt_tuple, PySem.W.dataLt_cons (by simp [alike])]
  by_cases h : t = u
  · rw [if_pos ((eqv_str _ _).mpr (by rw [h]))]
    rw [PySem.W.dataLt_tuple] at h1
    rw [h1]
    simp [cah, h]
  · rw [if_neg (fun q => h (tx_inj ((eqv_str _ _).mp q))), str_lt]
    simp [cah, h]
/-- the orders as the machine's sort has them -/
noncomputable abbrev leK : D → D → Bool := dataLe false fun z => krd (vt z)
noncomputable abbrev leC : D → D → Bool := dataLe false fun z => kd_cell_rank (ct z)
theorem leK_vah {a b : D} (ha : IsV a) (hb : IsV b) : leK a b = !vah b a := congrArg (! ·) (key_lt hb ha).1
theorem leC_cah {a b : D} (ha : IsC a) (hb : IsC b) : leC a b = !cah b a := congrArg (! ·) (cell_lt hb ha).1
theorem le_tr {f : D → PyData} : ∀ a b c, dataLe false f a b = true → dataLe false f b c = true → dataLe false f a c = true := (PySem.W.sortLe_total _ _ _).trans
theorem le_to {f : D → PyData} : ∀ a b, (dataLe false f a b || dataLe false f b a) = true := fun a b => by
  have := (PySem.W.sortLe_total (listOrd itemOrd) false fun b => PySem.W.keyToks (f b)).total a b
  rw [Bool.or_eq_true]; exact this
theorem vah_as {a b : D} (ha : IsV a) (hb : IsV b) (h1 : vah a b = false) (h2 : vah b a = false) : a = b := by
  rcases ha with ⟨i, rfl, _⟩ | ⟨x, rfl, _⟩ <;> rcases hb with ⟨j, rfl, _⟩ | ⟨y, rfl, _⟩
  · simp only [vah, decide_eq_false_iff_not] at h1 h2
    rw [show i = j by omega]
  · simp [vah] at h1
  · simp [vah] at h2
  · simp only [vah, decide_eq_false_iff_not] at h1 h2
    rw [List.le_antisymm (List.not_lt.mp h2) (List.not_lt.mp h1)]
theorem cah_as {a b : D} (ha : IsC a) (hb : IsC b) (h1 : cah a b = false) (h2 : cah b a = false) : a = b := by
  obtain ⟨t, k, rfl, ht, hk⟩ := ha
  obtain ⟨u, l, rfl, hu, hl⟩ := hb
  by_cases h : t = u
  · subst h
    simp only [cah, if_true] at h1 h2
    rw [vah_as hk hl h1 h2]
  · simp only [cah, if_neg h, if_neg (Ne.symm h), decide_eq_false_iff_not] at h1 h2
    exact absurd (List.le_antisymm (List.not_lt.mp h2) (List.not_lt.mp h1)) h
theorem sortK_ins {ds : List D} (h : ∀ d ∈ ds, IsV d) : insAll leK ds [] = ds.mergeSort leK :=
  insAll_sort le_tr le_to ds fun a b ha hb h1 h2 => by
    have h1 := (leK_vah (h a ha) (h b hb)).symm.trans h1
    have h2 := (leK_vah (h b hb) (h a ha)).symm.trans h2
    exact vah_as (h a ha) (h b hb) (by simpa using h2) (by simpa using h1)
theorem sortC_ins {ds : List D} (h : ∀ d ∈ ds, IsC d) : insAll leC ds [] = ds.mergeSort leC :=
  insAll_sort le_tr le_to ds fun a b ha hb h1 h2 => by
    have h1 := (leC_cah (h a ha) (h b hb)).symm.trans h1
    have h2 := (leC_cah (h b hb) (h a ha)).symm.trans h2
    exact cah_as (h a ha) (h b hb) (by simpa using h2) (by simpa using h1)
theorem sort_congr {r s : D → D → Bool} {ds : List D} (h : ∀ a ∈ ds, ∀ b ∈ ds, r a b = s a b) : ds.mergeSort r = ds.mergeSort s := by
  have := List.map_mergeSort (r := r) (s := s) (f := id) (l := ds) h
  simpa using this
theorem gSort_any {S : Sto} {d : D} {ds : List D} {ok : PyData → Bool} {kd : PyData → PyData} {g : D → PyData} (hs : seqOf S d = some ds) (hl : ds.length ≤ 1000000) (ht : ∀ z ∈ ds, treeD S 20 z = some (g z) ∧ flatT (g z) = true ∧ ok (g z) = true ∧ (kd (g z)).depth ≤ 40)
    (hal : ∀ a ∈ ds, ∀ b ∈ ds, alike (kd (g a)) (kd (g b)) = true) (hso : ∀ a ∈ ds, ∃ x r, kd (g a) = .tuple (x :: r)) : gSortK ok kd S [d] = some (ds.mergeSort (dataLe false fun z => kd (g z))) := by
  have htr : ∀ z ∈ ds, trD S z = g z := fun z hz => by unfold trD; rw [(ht z hz).1]; rfl
  have e1 : ds.map (fun z => kd (trD S z)) = ds.map fun z => kd (g z) := List.map_congr_left fun z hz => by rw [htr z hz]
  have e2 : ds.mergeSort (dataLe false fun z => kd (trD S z)) = ds.mergeSort (dataLe false fun z => kd (g z)) := sort_congr fun a ha b hb => by
    show (!(listOrd itemOrd).blt (PySem.W.keyToks (kd (trD S b))) (PySem.W.keyToks (kd (trD S a)))) = !(listOrd itemOrd).blt (PySem.W.keyToks (kd (g b))) (PySem.W.keyToks (kd (g a)))
    rw [htr a ha, htr b hb]
  unfold gSortK
  dsimp only
  rw [hs]
  dsimp only [Option.bind]
  rw [e1, e2, if_pos]
  refine ⟨hl, fun z hz => ⟨g z, ht z hz⟩, fun d hd d' hd' => ?_, .inl fun d hd => ?_⟩
  · obtain ⟨a, ha, rfl⟩ := List.mem_map.mp hd
    obtain ⟨b, hb, rfl⟩ := List.mem_map.mp hd'
    exact hal a ha b hb
  · obtain ⟨a, ha, rfl⟩ := List.mem_map.mp hd
    exact hso a ha
theorem gSort_keys {S : Sto} {d : D} {ds : List D} (hs : seqOf S d = some ds) (hl : ds.length ≤ 1000000) (h : ∀ z ∈ ds, IsV z) : gSortK okk_key_rank kd_key_rank S [d] = some (ds.mergeSort leK) :=
  gSort_any (g := vt) hs hl (fun z hz => ⟨tree_V (h z hz), by
    rcases h z hz with ⟨i, rfl, _⟩ | ⟨x, rfl, _⟩
    · exact ⟨rfl, rfl, by rw [show vt (.int i) = .int i from rfl, show kd_key_rank (.int i) = _ from krd_i i]; simp [PyData.depth, PyData.depthAll]⟩
    · exact ⟨rfl, rfl, by rw [show vt (.str x) = .str (tx x) from rfl, show kd_key_rank (.str (tx x)) = _ from krd_s _]; simp [PyData.depth, PyData.depthAll]⟩⟩)
    (fun a ha b hb => (key_lt (h a ha) (h b hb)).2) fun a ha => by
      rcases h a ha with ⟨i, rfl, _⟩ | ⟨x, rfl, _⟩
      · exact ⟨_, _, krd_i i⟩
      · exact ⟨_, _, krd_s _⟩
theorem gSort_cells {S : Sto} {d : D} {ds : List D} (hs : seqOf S d = some ds) (hl : ds.length ≤ 1000000) (h : ∀ z ∈ ds, IsC z) : gSortK okk_cell_rank kd_cell_rank S [d] = some (ds.mergeSort leC) :=
  gSort_any (g := ct) hs hl (fun z hz => ⟨tree_C (h z hz), by
    obtain ⟨t, k, rfl, ht, hk⟩ := h z hz
    rcases hk with ⟨i, rfl, _⟩ | ⟨x, rfl, _⟩
    · refine ⟨rfl, rfl, ?_⟩
      show (PyData.tuple [.str (tx t), .int 0, .int i, .str Str.empty]).depth ≤ 40
      simp [PyData.depth, PyData.depthAll]
    · refine ⟨rfl, rfl, ?_⟩
      show (PyData.tuple [.str (tx t), .int 1, .int 0, .str (tx x)]).depth ≤ 40
      simp [PyData.depth, PyData.depthAll]⟩)
    (fun a ha b hb => (cell_lt (h a ha) (h b hb)).2) fun a ha => by
      obtain ⟨t, k, rfl, ht, hk⟩ := h a ha
      obtain ⟨ks, _, e⟩ := kdc (t := t) hk
      exact ⟨_, _, e⟩
end Wk

/-! plain facts: repr of data with dicts -/
namespace Wk
open PySem PySem.Spec L2 Mp
open PyProof.Rows hiding St
structure Sx (t : PyData) (k m : Nat) : Prop where
  sh : t.showable = true
  dp : t.depth ≤ k
  sz : t.shown.length ≤ m
theorem Sm.sx {t : PyData} {k m : Nat} (h : Sm t k m) : Sx t k m := ⟨h.sh, h.dp, Nat.le_trans (shown_rsz t h.sh h.la) h.sz⟩
theorem Sx.mono {t : PyData} {k k' m m' : Nat} (h : Sx t k m) (hk : k ≤ k') (hm : m ≤ m') : Sx t k' m' := ⟨h.sh, Nat.le_trans h.dp hk, Nat.le_trans h.sz hm⟩
/-- d is shown, through the store S, in few characters -/
def Sh (S : Sto) (k m : Nat) (d : D) : Prop := ∃ t, (∀ n, k ≤ n → treeX S n d = some t) ∧ Sx t k m
theorem Sh.mono {S : Sto} {k k' m m' : Nat} {d : D} (h : Sh S k m d) (hk : k ≤ k') (hm : m ≤ m') : Sh S k' m' d := by
  obtain ⟨t, h1, h2⟩ := h
  exact ⟨t, fun n hn => h1 n (by omega), h2.mono hk hm⟩
theorem Sh.repr {S : Sto} {k m : Nat} {d : D} (h : Sh S k m d) (hk : k ≤ 60) (hm : m ≤ 1000000) : ∃ z, gReprX S d = some (.str z) := by
  obtain ⟨t, h1, h2⟩ := h
  refine ⟨shownL t, ?_⟩
  have ok : okX t = true := by
    unfold okX
    rw [h2.sh, decide_eq_true (show t.depth ≤ 64 by have := h2.dp; omega), decide_eq_true (show t.shown.length ≤ 1000000 by have := h2.sz; omega)]; rfl
  unfold gReprX
  rw [h1 60 hk]
  simp only [ok, if_true]
/-- plain ones -/
inductive Fl : D → Prop where
  | non : Fl .non
  | bl (b : Bool) : Fl (.bl b)
  | int (i : Int) (h : i.natAbs < 2 ^ 128) : Fl (.int i)
  | str (x : List Nat) (h : TxOk 40 x) : Fl (.str x)
theorem Fl.tree {d : D} (h : Fl d) : ∃ t, (∀ (S : Sto) (n : Nat), treeX S n d = some t) ∧ Sx t 0 500 := by
  cases h with
  | non => exact ⟨.none, fun S n => by cases n <;> rfl, sm_non.sx.mono (by omega) (by omega)⟩
  | bl b => exact ⟨.bool b, fun S n => by cases n <;> rfl, (sm_bl b).sx.mono (by omega) (by omega)⟩
  | int i h =>
    have hl : i.natAbs.log2 < 128 := by
      by_cases h0 : i.natAbs = 0
      · rw [h0]; decide
      · exact (Nat.log2_lt h0).mpr h
    refine ⟨.int i, fun S n => by cases n <;> rfl, ⟨?_, ?_, ?_⟩⟩
    · simp only [PyData.showable, decide_eq_true_eq]; omega
    · simp [PyData.depth]
    · have := shown_rsz (.int i) (by simp only [PyData.showable, decide_eq_true_eq]; omega) (by simp [PyData.canLay0])
      simp only [rsz] at this
      omega
  | str x h => exact ⟨.str (tx x), fun S n => by cases n <;> rfl, (sm_str h).sx.mono (by omega) (by omega)⟩
theorem Fl.sh {S : Sto} {d : D} (h : Fl d) : Sh S 0 500 d := by
  obtain ⟨t, h1, h2⟩ := h.tree
  exact ⟨t, fun n _ => h1 S n, h2⟩
theorem shs {S : Sto} {k m : Nat} : ∀ {ds : List D}, (∀ d ∈ ds, Sh S k m d) → ∃ ts, (∀ n, k ≤ n → mapO (treeX S n) ds = some ts) ∧ PyData.showableAll ts = true ∧ PyData.depthAll ts ≤ k ∧ ((PyData.shownAll ts).map (·.length)).sum ≤ ds.length * m ∧ (PyData.shownAll ts).length = ds.length
  | [], _ => ⟨[], fun _ _ => rfl, rfl, by simp [PyData.depthAll], by simp [PyData.shownAll], by simp [PyData.shownAll]⟩
  | d :: ds, h => by
    obtain ⟨t, h1, h2⟩ := h d List.mem_cons_self
    obtain ⟨ts, g1, g2, g3, g4, g5⟩ := shs fun x hx => h x (List.mem_cons_of_mem _ hx)
    refine ⟨t :: ts, fun n hn => ?_, ?_, ?_, ?_, ?_⟩
    · unfold mapO; rw [h1 n hn, g1 n hn]
    · simp only [PyData.showableAll, h2.sh, g2, Bool.and_self]
    · simp only [PyData.depthAll]; have := h2.dp; omega
    · simp only [PyData.shownAll, List.map_cons, List.sum_cons, List.length_cons, Nat.succ_mul]; have := h2.sz; omega
    · simp only [PyData.shownAll, List.length_cons, g5]
theorem lst_len {k m l : Nat} {ts : List PyData} (g2 : PyData.showableAll ts = true) (g3 : PyData.depthAll ts ≤ k) (g4 : ((PyData.shownAll ts).map (·.length)).sum ≤ l * m) (g5 : (PyData.shownAll ts).length = l) : Sx (.list ts) (k + 1) (l * (m + 2) + 3) ∧ Sx (.tuple ts) (k + 1) (l * (m + 2) + 3) := by
  have e : l * (m + 2) = l * m + 2 * l := by rw [Nat.mul_add]; omega
  refine ⟨⟨by simpa only [PyData.showable] using g2, by simp only [PyData.depth]; omega, ?_⟩, ⟨by simpa only [PyData.showable] using g2, by simp only [PyData.depth]; omega, ?_⟩⟩
  · simp only [PyData.shown]; have := listText_len_le (PyData.shownAll ts); omega
  · simp only [PyData.shown]; have := tupleText_len_le (PyData.shownAll ts); omega
theorem sh_tup {S : Sto} {k m : Nat} {ds : List D} (h : ∀ d ∈ ds, Sh S k m d) : Sh S (k + 1) (ds.length * (m + 2) + 3) (.tup ds) := by
  obtain ⟨ts, g1, g2, g3, g4, g5⟩ := shs h
  refine ⟨.tuple ts, fun n hn => ?_, (lst_len g2 g3 g4 g5).2⟩
  obtain ⟨n, rfl⟩ : ∃ n', n = n' + 1 := ⟨n - 1, by omega⟩
  show (mapO (treeX S n) ds).map PyData.tuple = _
  rw [g1 n (by omega)]; rfl
theorem sh_lst {S : Sto} {k m : Nat} {ds : List D} (h : ∀ d ∈ ds, Sh S k m d) : Sh S (k + 1) (ds.length * (m + 2) + 3) (.lst ds) := by
  obtain ⟨ts, g1, g2, g3, g4, g5⟩ := shs h
  refine ⟨.list ts, fun n hn => ?_, (lst_len g2 g3 g4 g5).1⟩
  obtain ⟨n, rfl⟩ : ∃ n', n = n' + 1 := ⟨n - 1, by omega⟩
  show (mapO (treeX S n) ds).map PyData.list = _
  rw [g1 n (by omega)]; rfl
theorem treeX_loc {S : Sto} {n j : Nat} {ds : List D} (hj : S[j]? = some (.lst ds)) : treeX S (n + 1) (.loc j) = (mapO (treeX S n) ds).map PyData.list := by
  show (match S[j]? with | some (.lst ds) => (mapO (treeX S n) ds).map PyData.list | some (.dct false false kvs) => (mapE (treeX S n) kvs).map .dict | _ => none) = _
  rw [hj]
theorem treeX_dct {S : Sto} {n j : Nat} {kvs : List (D × D)} (hj : S[j]? = some (.dct false false kvs)) : treeX S (n + 1) (.loc j) = (mapE (treeX S n) kvs).map PyData.dict := by
  show (match S[j]? with | some (.lst ds) => (mapO (treeX S n) ds).map PyData.list | some (.dct false false kvs) => (mapE (treeX S n) kvs).map .dict | _ => none) = _
  rw [hj]
theorem sh_loc {S : Sto} {k m j : Nat} {ds : List D} (hj : S[j]? = some (.lst ds)) (h : ∀ d ∈ ds, Sh S k m d) : Sh S (k + 1) (ds.length * (m + 2) + 3) (.loc j) := by
  obtain ⟨ts, g1, g2, g3, g4, g5⟩ := shs h
  refine ⟨.list ts, fun n hn => ?_, (lst_len g2 g3 g4 g5).1⟩
  obtain ⟨n, rfl⟩ : ∃ n', n = n' + 1 := ⟨n - 1, by omega⟩
  rw [treeX_loc hj, g1 n (by omega)]; rfl
theorem sh_dct0 {S : Sto} {j : Nat} (hj : S[j]? = some (.dct false false [])) : Sh S 1 5 (.loc j) := by
  refine ⟨.dict [], fun n hn => ?_, ⟨by simp [PyData.showable, PyData.showableKv], by simp [PyData.depth, PyData.depthKv], ?_⟩⟩
  · obtain ⟨n, rfl⟩ : ∃ n', n = n' + 1 := ⟨n - 1, by omega⟩
    rw [treeX_dct hj]; rfl
  · simp only [PyData.shown, PyData.shownKv]; decide
theorem sh_dct1 {S : Sto} {j : Nat} {x : List Nat} {v : D} (hj : S[j]? = some (.dct false false [(.str x, v)])) (hx : TxOk 40 x) (hv : Fl v) : Sh S 1 1100 (.loc j) := by
  obtain ⟨t, h1, h2⟩ := hv.tree
  have hk := (sm_str hx).sx
  refine ⟨.dict [(.str (tx x), t)], fun n hn => ?_, ⟨?_, ?_, ?_⟩⟩
  · obtain ⟨n, rfl⟩ : ∃ n', n = n' + 1 := ⟨n - 1, by omega⟩
    rw [treeX_dct hj]
    unfold mapE
    simp only [h1 S n, keyP, mapE]; rfl
  · simp only [PyData.showable, PyData.showableKv, h2.sh, Bool.and_true]
  · have a1 := h2.dp
    have a2 := hk.dp
    simp only [PyData.depth, PyData.depthKv] at *; omega
  · simp only [PyData.shown, PyData.shownKv]
    have a1 := h2.sz
    have a2 := hk.sz
    have := dictText_len_le [((PyData.str (tx x)).shown ++ ": " ++ t.shown)]
    have e2 : ((PyData.str (tx x)).shown ++ ": " ++ t.shown).length = (PyData.str (tx x)).shown.length + 2 + t.shown.length := by
      rw [strLen_append, strLen_append]; rfl
    simp only [List.map_cons, List.map_nil, List.sum_cons, List.sum_nil, List.length_cons, List.length_nil, e2] at this
    simp only [PyData.shown] at a2 this ⊢
    omega
end Wk

/-! the walk, printed by gen.py -/
namespace Wk
open PySem PySem.Spec L2 Mp
open PyProof.Rows hiding St
abbrev PG : Program := PySem.Challenge.pw_leftout_k01_kinds_of_values
def top (i : Nat) : Stmt := PG.main.body.getD i (.Pass ⟨0, 0, 0, 0⟩)
def inn : Stmt → Nat → Stmt
  | .ClassDef _ _ _ b _ _ _ _ _ _ _, i => b.getD i (.Pass ⟨0, 0, 0, 0⟩)
  | _, _ => .Pass ⟨0, 0, 0, 0⟩
abbrev s_p_is_integer : Stmt := top 8
abbrev s_p_is_word : Stmt := top 9
abbrev s_p_is_value : Stmt := top 10
abbrev s_p_is_table : Stmt := top 11
abbrev s_p_is_cell : Stmt := top 12
abbrev s_l_script_number : Stmt := top 14
abbrev s_l_new_bag : Stmt := top 15
abbrev s_l_take : Stmt := top 16
abbrev s_l_drawn_word : Stmt := top 17
abbrev s_l_reserved : Stmt := top 18
abbrev s_l_drawn_integer : Stmt := top 19
abbrev s_l_spoilt : Stmt := top 20
abbrev s_l_drawn_thing : Stmt := top 21
abbrev s_l_is_whole : Stmt := top 22
abbrev s_l_is_word : Stmt := top 23
abbrev s_l_is_worth : Stmt := top 24
abbrev s_l_is_plain : Stmt := top 25
abbrev s_l_is_place : Stmt := top 26
abbrev s_l_right : Stmt := top 27
abbrev s_l_between_right : Stmt := top 28
abbrev s_m_law : Stmt := top 29
abbrev s_x_InvalidText : Stmt := inn (top 2) 0
abbrev exCs : List Nat := [15]
theorem sc_p_is_integer : FnScope ["value", "low", "high"] ["value", "low", "high"] (defScope s_p_is_integer) := ⟨rfl, rfl, rfl, by decide +kernel, rfl, by decide +kernel, by decide +kernel⟩
theorem sc_p_is_word : FnScope ["value", "letter"] ["value"] (defScope s_p_is_word) := ⟨rfl, rfl, rfl, by decide +kernel, rfl, by decide +kernel, by decide +kernel⟩
theorem sc_p_is_value : FnScope ["value"] ["value"] (defScope s_p_is_value) := ⟨rfl, rfl, rfl, by decide +kernel, rfl, by decide +kernel, by decide +kernel⟩
theorem sc_p_is_table : FnScope ["value"] ["value"] (defScope s_p_is_table) := ⟨rfl, rfl, rfl, by decide +kernel, rfl, by decide +kernel, by decide +kernel⟩
theorem sc_p_is_cell : FnScope ["value"] ["value"] (defScope s_p_is_cell) := ⟨rfl, rfl, rfl, by decide +kernel, rfl, by decide +kernel, by decide +kernel⟩
theorem sc_l_script_number : FnScope ["_law_script", "_law_index"] ["_law_script", "_law_index"] (defScope s_l_script_number) := ⟨rfl, rfl, rfl, by decide +kernel, rfl, by decide +kernel, by decide +kernel⟩
theorem sc_l_new_bag : FnScope ["_law_number"] ["_law_number"] (defScope s_l_new_bag) := ⟨rfl, rfl, rfl, by decide +kernel, rfl, by decide +kernel, by decide +kernel⟩
theorem sc_l_take : FnScope ["_law_bag", "_law_count", "_law_digit", "_law_mixed"] ["_law_bag", "_law_count"] (defScope s_l_take) := ⟨rfl, rfl, rfl, by decide +kernel, rfl, by decide +kernel, by decide +kernel⟩
theorem sc_l_drawn_word : FnScope ["_law_bag", "_law_letters", "_law_size", "_law_k"] ["_law_bag"] (defScope s_l_drawn_word) := ⟨rfl, rfl, rfl, by decide +kernel, rfl, by decide +kernel, by decide +kernel⟩
theorem sc_l_reserved : FnScope [] [] (defScope s_l_reserved) := ⟨rfl, rfl, rfl, by decide +kernel, rfl, by decide +kernel, by decide +kernel⟩
theorem sc_l_drawn_integer : FnScope ["_law_bag", "_law_great", "_law_wide", "_law_some"] ["_law_bag"] (defScope s_l_drawn_integer) := ⟨rfl, rfl, rfl, by decide +kernel, rfl, by decide +kernel, by decide +kernel⟩
theorem sc_l_spoilt : FnScope ["_law_bag", "_law_word", "_law_at", "_law_odd", "_law_some"] ["_law_bag", "_law_word"] (defScope s_l_spoilt) := ⟨rfl, rfl, rfl, by decide +kernel, rfl, by decide +kernel, by decide +kernel⟩
theorem sc_l_drawn_thing : FnScope ["_law_bag", "_law_number", "_law_word", "_law_own", "_law_far", "_law_some"] ["_law_bag"] (defScope s_l_drawn_thing) := ⟨rfl, rfl, rfl, by decide +kernel, rfl, by decide +kernel, by decide +kernel⟩
theorem sc_l_is_whole : FnScope ["_law_thing"] ["_law_thing"] (defScope s_l_is_whole) := ⟨rfl, rfl, rfl, by decide +kernel, rfl, by decide +kernel, by decide +kernel⟩
theorem sc_l_is_word : FnScope ["_law_thing", "_law_sign"] ["_law_thing"] (defScope s_l_is_word) := ⟨rfl, rfl, rfl, by decide +kernel, rfl, by decide +kernel, by decide +kernel⟩
theorem sc_l_is_worth : FnScope ["_law_thing"] ["_law_thing"] (defScope s_l_is_worth) := ⟨rfl, rfl, rfl, by decide +kernel, rfl, by decide +kernel, by decide +kernel⟩
theorem sc_l_is_plain : FnScope ["_law_thing"] ["_law_thing"] (defScope s_l_is_plain) := ⟨rfl, rfl, rfl, by decide +kernel, rfl, by decide +kernel, by decide +kernel⟩
theorem sc_l_is_place : FnScope ["_law_thing"] ["_law_thing"] (defScope s_l_is_place) := ⟨rfl, rfl, rfl, by decide +kernel, rfl, by decide +kernel, by decide +kernel⟩
theorem sc_l_right : FnScope ["_law_thing", "_law_found", "_law_expected"] ["_law_thing"] (defScope s_l_right) := ⟨rfl, rfl, rfl, by decide +kernel, rfl, by decide +kernel, by decide +kernel⟩
theorem sc_l_between_right : FnScope ["_law_thing", "_law_least", "_law_most", "_law_expected"] ["_law_thing", "_law_least", "_law_most"] (defScope s_l_between_right) := ⟨rfl, rfl, rfl, by decide +kernel, rfl, by decide +kernel, by decide +kernel⟩
theorem sc_m_law : FnScope ["_law_script", "_law_index", "_law_bag", "_law_one", "_law_other", "_law_some", "_law_word", "_law_middle", "_law_least", "_law_most", "_law_thing"] ["_law_script"] (defScope s_m_law) := ⟨rfl, rfl, rfl, by decide +kernel, rfl, by decide +kernel, by decide +kernel⟩
theorem sc_x_InvalidText : FnScope ["self", "value"] ["self", "value"] (defScope s_x_InvalidText) := ⟨rfl, rfl, rfl, by decide +kernel, rfl, by decide +kernel, by decide +kernel⟩
abbrev k_RESERVED : List D := [.str [108, 101, 116], .str [100, 101, 108], .str [105, 102], .str [101, 108, 115, 101], .str [119, 104, 105, 108, 101], .str [101, 97, 99, 104], .str [105, 110], .str [112, 114, 105, 110, 116], .str [102, 97, 105, 108], .str [104, 97, 115], .str [99, 111, 117, 110, 116], .str [115, 117, 109], .str [110, 111, 116], .str [97, 110, 100], .str [111, 114], .str [109, 111, 100]]
abbrev kv_RESERVED : List V := [.str (tx [108, 101, 116]), .str (tx [100, 101, 108]), .str (tx [105, 102]), .str (tx [101, 108, 115, 101]), .str (tx [119, 104, 105, 108, 101]), .str (tx [101, 97, 99, 104]), .str (tx [105, 110]), .str (tx [112, 114, 105, 110, 116]), .str (tx [102, 97, 105, 108]), .str (tx [104, 97, 115]), .str (tx [99, 111, 117, 110, 116]), .str (tx [115, 117, 109]), .str (tx [110, 111, 116]), .str (tx [97, 110, 100]), .str (tx [111, 114]), .str (tx [109, 111, 100])]
theorem kr_RESERVED : Paired RepC kv_RESERVED k_RESERVED := .cons (.str _) (.cons (.str _) (.cons (.str _) (.cons (.str _) (.cons (.str _) (.cons (.str _) (.cons (.str _) (.cons (.str _) (.cons (.str _) (.cons (.str _) (.cons (.str _) (.cons (.str _) (.cons (.str _) (.cons (.str _) (.cons (.str _) (.cons (.str _) (.nil))))))))))))))))
noncomputable def b_p_is_integer : EvS :=
  sRet (cAnd (cUn (gIsE exCs .int) (cVar 0)) (cAnd (cNot (cUn (gIsE exCs .bool) (cVar 0))) (cChain gLe gLe (cVar 1) (cVar 0) (cVar 2))))
noncomputable def f_p_is_integer : List D → Sto → Res D := bodyF 3 b_p_is_integer
noncomputable abbrev w1_p_is_word : Ev :=
  cBin gIn (cVar 1) (cC (.str [97, 98, 99, 100, 101, 102, 103, 104, 105, 106, 107, 108, 109, 110, 111, 112, 113, 114, 115, 116, 117, 118, 119, 120, 121, 122]))
noncomputable def b_p_is_word : EvS :=
  sSeq (sIf (tOrB (tNotB (tTr (cUn (gIsE exCs .str) (cVar 0)))) (tNotB (tB1 (cChain gLe gLe (cC (.int 1)) (cB gLen (cCons (cVar 0) (cNil))) (cC (.int 8)))))) (sRet (cC (.bl false))) (sNx))
      (sRet (cB (g1 gAll) (cCons (cInl (cLc (iSeq (cVar 0)) (tNm 1) (tTrue) (w1_p_is_word) [1])) (cNil))))
noncomputable def f_p_is_word : List D → Sto → Res D := bodyF 2 b_p_is_word
noncomputable def b_p_is_value : EvS :=
  sRet (cOr (cCall 3 f_p_is_integer (cCons (cVar 0) (cCons (cBin gSub (cC (.int 0)) (cC (.int 1000000000000000))) (cCons (cC (.int 1000000000000000)) (cNil))))) (cCall 1 f_p_is_word (cCons (cVar 0) (cNil))))
noncomputable def f_p_is_value : List D → Sto → Res D := bodyF 1 b_p_is_value
noncomputable def b_p_is_table : EvS :=
  sRet (cAnd (cCall 1 f_p_is_word (cCons (cVar 0) (cNil))) (cBin gNotIn (cVar 0) (cC (.tup k_RESERVED))))
noncomputable def f_p_is_table : List D → Sto → Res D := bodyF 1 b_p_is_table
noncomputable def b_p_is_cell : EvS :=
  sRet (cAnd (cUn (gIsE exCs .tuple) (cVar 0)) (cAnd (cBin gEq (cB gLen (cCons (cVar 0) (cNil))) (cC (.int 2))) (cAnd (cCall 1 f_p_is_table (cCons (cBin gIx (cVar 0) (cC (.int 0))) (cNil))) (cCall 1 f_p_is_value (cCons (cBin gIx (cVar 0) (cC (.int 1))) (cNil))))))
noncomputable def f_p_is_cell : List D → Sto → Res D := bodyF 1 b_p_is_cell
noncomputable def b_l_script_number : EvS :=
  sSeq (sIf (tB1 (cBin gLt (cVar 1) (cB gLen (cCons (cVar 0) (cNil))))) (sRet (cBin gIx (cVar 0) (cVar 1))) (sNx))
      (sRet (cBin gAdd (cBin gMul (cC (.int 7013)) (cVar 1)) (cC (.int 29))))
noncomputable def f_l_script_number : List D → Sto → Res D := bodyF 2 b_l_script_number
noncomputable def b_l_new_bag : EvS :=
  sRet (cNew (cLstF (cCons (cB (g2 gMax) (cCons (cC (.int 0)) (cCons (cBin gSub (cVar 0) (cBin gPow (cC (.int 10)) (cC (.int 18)))) (cNil)))) (cCons (cBin gMod (cVar 0) (cC (.int 2147483629))) (cCons (cC (.int 0)) (cNil))))))
noncomputable def f_l_new_bag : List D → Sto → Res D := bodyF 1 b_l_new_bag
noncomputable def b_l_take : EvS :=
  sSeq (sIf (tB1 (cBin gGt (cBin gIx (cVar 0) (cC (.int 0))) (cC (.int 0)))) (sSeq (sSet 2 (cBin gMod (cBin gIx (cVar 0) (cC (.int 0))) (cVar 1)))
      (sSeq (sSub (cVar 0) (cC (.int 0)) (cBin gDiv (cBin gIx (cVar 0) (cC (.int 0))) (cVar 1)))
      (sRet (cVar 2)))) (sNx))
      (sSeq (sSub (cVar 0) (cC (.int 2)) (cBin gAdd (cBin gIx (cVar 0) (cC (.int 2))) (cC (.int 1))))
      (sSeq (sSet 3 (cBin gMod (cBin gPow (cBin gAdd (cBin gAdd (cBin gIx (cVar 0) (cC (.int 1))) (cBin gMul (cC (.int 7013)) (cBin gIx (cVar 0) (cC (.int 2))))) (cC (.int 29))) (cC (.int 5))) (cC (.int 2147483647))))
      (sSeq (sSet 3 (cBin gMod (cBin gPow (cBin gAdd (cVar 3) (cBin gMul (cC (.int 99991)) (cBin gIx (cVar 0) (cC (.int 2))))) (cC (.int 3))) (cC (.int 2147483587))))
      (sRet (cBin gMod (cBin gDiv (cVar 3) (cC (.int 16))) (cVar 1))))))
noncomputable def f_l_take : List D → Sto → Res D := bodyF 4 b_l_take
noncomputable abbrev w1_l_drawn_word : Ev :=
  cBin gIx (cVar 1) (cCall 2 f_l_take (cCons (cVar 0) (cCons (cC (.int 26)) (cNil))))
noncomputable def b_l_drawn_word : EvS :=
  sSeq (sSet 1 (cC (.str [97, 98, 99, 100, 101, 102, 103, 104, 105, 106, 107, 108, 109, 110, 111, 112, 113, 114, 115, 116, 117, 118, 119, 120, 121, 122])))
      (sSeq (sSet 2 (cBin gAdd (cC (.int 1)) (cBin gIx (cInl (cLstF (cCons (cCall 2 f_l_take (cCons (cVar 0) (cCons (cC (.int 3)) (cNil)))) (cCons (cCall 2 f_l_take (cCons (cVar 0) (cCons (cC (.int 8)) (cNil)))) (cNil))))) (cCall 2 f_l_take (cCons (cVar 0) (cCons (cC (.int 2)) (cNil)))))))
      (sRet (cM "str" gJoin (cC (.str [])) (cCons (cInl (cLc (iRng1' (cVar 2)) (tNm 3) (tTrue) (w1_l_drawn_word) [3])) (cNil)))))
noncomputable def f_l_drawn_word : List D → Sto → Res D := bodyF 4 b_l_drawn_word
noncomputable def b_l_reserved : EvS :=
  sRet (cInl (cMF "str" gSplit (cC (.str [108, 101, 116, 32, 100, 101, 108, 32, 105, 102, 32, 101, 108, 115, 101, 32, 119, 104, 105, 108, 101, 32, 101, 97, 99, 104, 32, 105, 110, 32, 112, 114, 105, 110, 116, 32, 102, 97, 105, 108, 32, 104, 97, 115, 32, 99, 111, 117, 110, 116, 32, 115, 117, 109, 32, 110, 111, 116, 32, 97, 110, 100, 32, 111, 114, 32, 109, 111, 100])) (cCons (cC (.str [32])) (cNil))))
noncomputable def f_l_reserved : List D → Sto → Res D := bodyF 0 b_l_reserved
noncomputable def b_l_drawn_integer : EvS :=
  sSeq (sSet 1 (cBin gPow (cC (.int 10)) (cC (.int 15))))
      (sSeq (sSet 2 (cBin gAdd (cBin gMul (cCall 2 f_l_take (cCons (cVar 0) (cCons (cBin gPow (cC (.int 10)) (cC (.int 8))) (cNil)))) (cBin gPow (cC (.int 10)) (cC (.int 7)))) (cCall 2 f_l_take (cCons (cVar 0) (cCons (cBin gPow (cC (.int 10)) (cC (.int 7))) (cNil))))))
      (sSeq (sSet 3 (cInl (cLstF (cCons (cBin gSub (cCall 2 f_l_take (cCons (cVar 0) (cCons (cC (.int 21)) (cNil)))) (cC (.int 10))) (cCons (cCall 2 f_l_take (cCons (cVar 0) (cCons (cBin gPow (cC (.int 10)) (cC (.int 6))) (cNil)))) (cCons (cBin gSub (cVar 1) (cCall 2 f_l_take (cCons (cVar 0) (cCons (cC (.int 3)) (cNil))))) (cCons (cBin gSub (cCall 2 f_l_take (cCons (cVar 0) (cCons (cC (.int 3)) (cNil)))) (cVar 1)) (cNil))))))))
      (sRet (cBin gIx (cBin gAdd (cVar 3) (cInl (cLstF (cCons (cBin gMul (cVar 2) (cBin gIx (cInl (cLstF (cCons (cC (.int 1)) (cCons (cUn gNeg (cC (.int 1))) (cNil))))) (cCall 2 f_l_take (cCons (cVar 0) (cCons (cC (.int 2)) (cNil)))))) (cNil))))) (cCall 2 f_l_take (cCons (cVar 0) (cCons (cC (.int 5)) (cNil))))))))
noncomputable def f_l_drawn_integer : List D → Sto → Res D := bodyF 4 b_l_drawn_integer
noncomputable def b_l_spoilt : EvS :=
  sSeq (sSet 2 (cCall 2 f_l_take (cCons (cVar 0) (cCons (cBin gAdd (cB gLen (cCons (cVar 1) (cNil))) (cC (.int 1))) (cNil)))))
      (sSeq (sSet 3 (cBin gIx (cC (.str [65, 66, 90, 48, 57, 95, 32, 45, 39, 35, 126, 91, 46, 10, 96, 123, 47, 58, 64])) (cCall 2 f_l_take (cCons (cVar 0) (cCons (cC (.int 19)) (cNil))))))
      (sSeq (sSet 4 (cInl (cLstF (cCons (cVar 1) (cCons (cBin gAdd (cBin gAdd (cSl (cVar 1) (oNo) (oSome (cVar 2))) (cVar 3)) (cSl (cVar 1) (oSome (cBin gAdd (cVar 2) (cC (.int 1)))) (oNo))) (cCons (cBin gAdd (cBin gAdd (cSl (cVar 1) (oNo) (oSome (cVar 2))) (cVar 3)) (cSl (cVar 1) (oSome (cVar 2)) (oNo))) (cCons (cBin gAdd (cVar 1) (cSl (cC (.str [97, 98, 99, 100, 101, 102, 103, 104])) (oNo) (oSome (cBin gSub (cC (.int 9)) (cB gLen (cCons (cVar 1) (cNil))))))) (cNil))))))))
      (sRet (cBin gIx (cBin gAdd (cVar 4) (cInl (cLstF (cCons (cVar 1) (cNil))))) (cCall 2 f_l_take (cCons (cVar 0) (cCons (cC (.int 5)) (cNil))))))))
noncomputable def f_l_spoilt : List D → Sto → Res D := bodyF 5 b_l_spoilt
noncomputable def b_l_drawn_thing : EvS :=
  sSeq (sSet 1 (cBin gSub (cBin gAdd (cCall 1 f_l_drawn_integer (cCons (cVar 0) (cNil))) (cCall 2 f_l_take (cCons (cVar 0) (cCons (cC (.int 5)) (cNil))))) (cC (.int 2))))
      (sSeq (sSet 2 (cCall 2 f_l_spoilt (cCons (cVar 0) (cCons (cCall 1 f_l_drawn_word (cCons (cVar 0) (cNil))) (cNil)))))
      (sSeq (sSet 3 (cBin gIx (cCall0 f_l_reserved) (cCall 2 f_l_take (cCons (cVar 0) (cCons (cC (.int 16)) (cNil))))))
      (sSeq (sSet 4 (cBin gMul (cBin gPow (cC (.int 10)) (cC (.int 15))) (cBin gAdd (cC (.int 1)) (cBin gMul (cCall 2 f_l_take (cCons (cVar 0) (cCons (cBin gPow (cC (.int 10)) (cC (.int 8))) (cNil)))) (cBin gPow (cC (.int 10)) (cC (.int 6)))))))
      (sSeq (sSet 5 (cInl (cLstF (cCons (cVar 1) (cCons (cVar 2) (cCons (cVar 3) (cCons (cBin gAdd (cVar 3) (cBin gIx (cInl (cLstF (cCons (cC (.str [115])) (cCons (cC (.str [32])) (cCons (cC (.str [105, 110])) (cNil)))))) (cCall 2 f_l_take (cCons (cVar 0) (cCons (cC (.int 3)) (cNil)))))) (cCons (cVar 4) (cCons (cBin gSub (cC (.int 0)) (cVar 4)) (cCons (cVar 2) (cNil)))))))))))
      (sSeq (sSet 5 (cBin gAdd (cVar 5) (cInl (cLstF (cCons (cBin gIx (cInl (cLstF (cCons (cC (.bl true)) (cCons (cC (.bl false)) (cCons (cC .non) (cCons (cC (.str [])) (cCons (cInl (cLstF (cCons (cVar 2) (cNil)))) (cCons (cTup (cCons (cVar 2) (cNil))) (cCons (cDct1 (cVar 2) (cVar 1)) (cCons (cC (.int 0)) (cNil))))))))))) (cCall 2 f_l_take (cCons (cVar 0) (cCons (cC (.int 8)) (cNil))))) (cNil))))))
      (sRet (cBin gIx (cVar 5) (cCall 2 f_l_take (cCons (cVar 0) (cCons (cC (.int 8)) (cNil)))))))))))
noncomputable def f_l_drawn_thing : List D → Sto → Res D := bodyF 6 b_l_drawn_thing
noncomputable def b_l_is_whole : EvS :=
  sRet (cAnd (cUn (gIsE exCs .int) (cVar 0)) (cNot (cUn (gIsE exCs .bool) (cVar 0))))
noncomputable def f_l_is_whole : List D → Sto → Res D := bodyF 1 b_l_is_whole
noncomputable abbrev w1_l_is_word : EvB :=
  tB1 (cBin gNotIn (cVar 1) (cC (.str [97, 98, 99, 100, 101, 102, 103, 104, 105, 106, 107, 108, 109, 110, 111, 112, 113, 114, 115, 116, 117, 118, 119, 120, 121, 122])))
noncomputable def b_l_is_word : EvS :=
  sSeq (sIf (tOrB (tNotB (tTr (cUn (gIsE exCs .str) (cVar 0)))) (tOrB (tB1 (cBin gLt (cB gLen (cCons (cVar 0) (cNil))) (cC (.int 1)))) (tB1 (cBin gGt (cB gLen (cCons (cVar 0) (cNil))) (cC (.int 8)))))) (sRet (cC (.bl false))) (sNx))
      (sRet (cBin gEq (cInl (cLc (iSeq (cVar 0)) (tNm 1) (w1_l_is_word) (cVar 1) [1])) (cInl (cLstF (cNil)))))
noncomputable def f_l_is_word : List D → Sto → Res D := bodyF 2 b_l_is_word
noncomputable def b_l_is_worth : EvS :=
  sRet (cOr (cCall 1 f_l_is_word (cCons (cVar 0) (cNil))) (cAnd (cCall 1 f_l_is_whole (cCons (cVar 0) (cNil))) (cAnd (cBin gLe (cBin gSub (cC (.int 0)) (cBin gPow (cC (.int 10)) (cC (.int 15)))) (cVar 0)) (cBin gLe (cVar 0) (cBin gPow (cC (.int 10)) (cC (.int 15)))))))
noncomputable def f_l_is_worth : List D → Sto → Res D := bodyF 1 b_l_is_worth
noncomputable def b_l_is_plain : EvS :=
  sRet (cAnd (cCall 1 f_l_is_word (cCons (cVar 0) (cNil))) (cBin gNotIn (cVar 0) (cCall0 f_l_reserved)))
noncomputable def f_l_is_plain : List D → Sto → Res D := bodyF 1 b_l_is_plain
noncomputable def b_l_is_place : EvS :=
  sSeq (sIf (tOrB (tNotB (tTr (cUn (gIsE exCs .tuple) (cVar 0)))) (tB1 (cBin gNe (cB gLen (cCons (cVar 0) (cNil))) (cC (.int 2))))) (sRet (cC (.bl false))) (sNx))
      (sRet (cAnd (cCall 1 f_l_is_plain (cCons (cBin gIx (cVar 0) (cC (.int 0))) (cNil))) (cCall 1 f_l_is_worth (cCons (cBin gIx (cVar 0) (cC (.int 1))) (cNil)))))
noncomputable def f_l_is_place : List D → Sto → Res D := bodyF 1 b_l_is_place
noncomputable def b_l_right : EvS :=
  sSeq (sSet 1 (cInl (cLstF (cCons (cCall 1 f_p_is_word (cCons (cVar 0) (cNil))) (cCons (cCall 1 f_p_is_value (cCons (cVar 0) (cNil))) (cCons (cCall 1 f_p_is_table (cCons (cVar 0) (cNil))) (cCons (cCall 1 f_p_is_cell (cCons (cVar 0) (cNil))) (cNil))))))))
      (sSeq (sSet 2 (cInl (cLstF (cCons (cCall 1 f_l_is_word (cCons (cVar 0) (cNil))) (cCons (cCall 1 f_l_is_worth (cCons (cVar 0) (cNil))) (cCons (cCall 1 f_l_is_plain (cCons (cVar 0) (cNil))) (cCons (cCall 1 f_l_is_place (cCons (cVar 0) (cNil))) (cNil))))))))
      (sRet (cBin gEq (cB (g1 gRepr) (cCons (cVar 1) (cNil))) (cB (g1 gRepr) (cCons (cVar 2) (cNil))))))
noncomputable def f_l_right : List D → Sto → Res D := bodyF 3 b_l_right
noncomputable def b_l_between_right : EvS :=
  sSeq (sSet 3 (cAnd (cCall 1 f_l_is_whole (cCons (cVar 0) (cNil))) (cAnd (cBin gLe (cVar 1) (cVar 0)) (cBin gLe (cVar 0) (cVar 2)))))
      (sRet (cBin gEq (cB (g1 gRepr) (cCons (cCall 3 f_p_is_integer (cCons (cVar 0) (cCons (cVar 1) (cCons (cVar 2) (cNil))))) (cNil))) (cB (g1 gRepr) (cCons (cVar 3) (cNil)))))
noncomputable def f_l_between_right : List D → Sto → Res D := bodyF 4 b_l_between_right
noncomputable abbrev w1_m_law : EvB :=
  tNotB (tTr (cCall 1 f_l_right (cCons (cVar 10) (cNil))))
noncomputable abbrev w2_m_law : EvS :=
  sSeq (sIf (tOrB (tNotB (tTr (cCall 3 f_l_between_right (cCons (cVar 10) (cCons (cVar 8) (cCons (cVar 9) (cNil))))))) (tNotB (tTr (cCall 3 f_l_between_right (cCons (cVar 10) (cCons (cC (.int 0)) (cCons (cC (.int 1)) (cNil)))))))) (sRet (cC (.bl false))) (sNx))
      (sIf (tNotB (tTr (cCall 3 f_l_between_right (cCons (cVar 10) (cCons (cBin gSub (cC (.int 0)) (cBin gPow (cC (.int 10)) (cC (.int 29)))) (cCons (cBin gPow (cC (.int 10)) (cC (.int 29))) (cNil))))))) (sRet (cC (.bl false))) (sNx))
noncomputable abbrev w3_m_law : EvS :=
  sSeq (sSet 2 (cCall 1 f_l_new_bag (cCons (cCall 2 f_l_script_number (cCons (cVar 0) (cCons (cVar 1) (cNil)))) (cNil))))
      (sSeq (sPar 3 4 (cCall 1 f_l_drawn_thing (cCons (cVar 2) (cNil))) (cCall 1 f_l_drawn_thing (cCons (cVar 2) (cNil))))
      (sSeq (sSet 5 (cInl (cLstF (cCons (cVar 3) (cCons (cVar 4) (cCons (cTup (cCons (cVar 3) (cCons (cVar 4) (cNil)))) (cCons (cTup (cCons (cVar 4) (cCons (cVar 3) (cNil)))) (cCons (cInl (cLstF (cCons (cVar 3) (cCons (cVar 4) (cNil))))) (cCons (cTup (cCons (cVar 3) (cNil))) (cCons (cTup (cCons (cVar 3) (cCons (cVar 4) (cCons (cVar 3) (cNil))))) (cCons (cTup (cCons (cTup (cCons (cVar 3) (cCons (cVar 4) (cNil)))) (cCons (cVar 3) (cNil)))) (cNil))))))))))))
      (sSeq (sSet 6 (cCall 1 f_l_drawn_word (cCons (cVar 2) (cNil))))
      (sSeq (sSet 5 (cBin gAdd (cVar 5) (cInl (cLstF (cCons (cTup (cCons (cVar 6) (cCons (cVar 3) (cNil)))) (cCons (cTup (cCons (cVar 6) (cCons (cVar 4) (cNil)))) (cCons (cTup (cCons (cVar 3) (cCons (cVar 6) (cNil)))) (cCons (cTup (cCons (cVar 6) (cCons (cVar 6) (cCons (cVar 6) (cNil))))) (cCons (cInl (cLstF (cCons (cVar 6) (cCons (cC (.int 5)) (cNil))))) (cCons (cTup (cCons (cVar 6) (cCons (cTup (cCons (cVar 6) (cCons (cC (.int 5)) (cNil)))) (cNil)))) (cNil)))))))))))
      (sSeq (sSet 5 (cBin gAdd (cVar 5) (cInl (cLstF (cCons (cTup (cNil)) (cCons (cInl (cLstF (cNil))) (cCons (cDct0 false) (cCons (cTup (cCons (cVar 6) (cNil))) (cCons (cC (.str [])) (cCons (cC (.int 0)) (cCons (cExn 15 13 (cVar 6)) (cCons (cTup (cCons (cVar 6) (cCons (cExn 15 13 (cVar 6)) (cNil)))) (cCons (cTup (cCons (cExn 15 13 (cVar 6)) (cCons (cC (.int 5)) (cNil)))) (cNil))))))))))))))
      (sSeq (sIf (tB1 (cBin gNe (cInl (cLc (iSeq (cVar 5)) (tNm 10) (w1_m_law) (cVar 10) [10])) (cInl (cLstF (cNil))))) (sRet (cC (.bl false))) (sNx))
      (sSeq (sSet 7 (cIf (tTr (cCall 1 f_l_is_whole (cCons (cVar 3) (cNil)))) (cVar 3) (cCall 1 f_l_drawn_integer (cCons (cVar 2) (cNil)))))
      (sSeq (sPar 8 9 (cBin gSub (cBin gAdd (cVar 7) (cCall 2 f_l_take (cCons (cVar 2) (cCons (cC (.int 3)) (cNil))))) (cC (.int 1))) (cBin gSub (cBin gAdd (cVar 7) (cCall 2 f_l_take (cCons (cVar 2) (cCons (cC (.int 4)) (cNil))))) (cC (.int 1))))
      (sFor (iSeq (cBin gAdd (cVar 5) (cInl (cLstF (cCons (cVar 7) (cCons (cC (.bl true)) (cCons (cC (.bl false)) (cNil)))))))) (tNm 10) (w2_m_law))))))))))
noncomputable def b_m_law : EvS :=
  sSeq (sFor (iRng1' (cB (g2 gMax) (cCons (cC (.int 3)) (cCons (cB (g2 gMin) (cCons (cC (.int 40)) (cCons (cB gLen (cCons (cVar 0) (cNil))) (cNil)))) (cNil))))) (tNm 1) (w3_m_law))
      (sRet (cC (.bl true)))
noncomputable def f_m_law : List D → Sto → Res D := bodyF 11 b_m_law
/-- what is leant on -/
structure Txt (P : Program) (w : World) (K : PySem.W.Frag) (mg : Str → Option Value) (base : Heap) (G : Glo) : Prop where
  n_all : mg "all" = none
  n_bool : mg "bool" = none
  n_int : mg "int" = none
  n_isinstance : mg "isinstance" = none
  n_len : mg "len" = none
  n_max : mg "max" = none
  n_min : mg "min" = none
  n_range : mg "range" = none
  n_repr : mg "repr" = none
  n_str : mg "str" = none
  n_tuple : mg "tuple" = none
  c_LETTERS : ∃ t, mg "LETTERS" = some (.str (tx [97, 98, 99, 100, 101, 102, 103, 104, 105, 106, 107, 108, 109, 110, 111, 112, 113, 114, 115, 116, 117, 118, 119, 120, 121, 122]) t)
  c_LONGEST_WORD : ∃ t, mg "LONGEST_WORD" = some (.int 8 t)
  c_GREATEST : ∃ t, mg "GREATEST" = some (.int 1000000000000000 t)
  c_RESERVED : ∃ a, mg "RESERVED" = some (.ref a) ∧ ∀ H, SqT K H a kv_RESERVED
  x_InvalidText : OwnX P w K mg base G 0 "InvalidText" "value"
  vx : ∀ c ∈ exCs, ExV K c
  g_InvalidText : G.ca 0 = He.ga K (clsN 15)
  d_p_is_integer : (∃ fd, FunD K "is_integer" "is_integer" (defArgs s_p_is_integer) (defBody s_p_is_integer) (defScope s_p_is_integer) [] [] (He.ga K "is_integer") fd) ∧ mg "is_integer" = some (.ref (He.ga K "is_integer"))
  d_p_is_word : (∃ fd, FunD K "is_word" "is_word" (defArgs s_p_is_word) (defBody s_p_is_word) (defScope s_p_is_word) [] [] (He.ga K "is_word") fd) ∧ mg "is_word" = some (.ref (He.ga K "is_word"))
  d_p_is_value : (∃ fd, FunD K "is_value" "is_value" (defArgs s_p_is_value) (defBody s_p_is_value) (defScope s_p_is_value) [] [] (He.ga K "is_value") fd) ∧ mg "is_value" = some (.ref (He.ga K "is_value"))
  d_p_is_table : (∃ fd, FunD K "is_table" "is_table" (defArgs s_p_is_table) (defBody s_p_is_table) (defScope s_p_is_table) [] [] (He.ga K "is_table") fd) ∧ mg "is_table" = some (.ref (He.ga K "is_table"))
  d_p_is_cell : (∃ fd, FunD K "is_cell" "is_cell" (defArgs s_p_is_cell) (defBody s_p_is_cell) (defScope s_p_is_cell) [] [] (He.ga K "is_cell") fd) ∧ mg "is_cell" = some (.ref (He.ga K "is_cell"))
  d_l_script_number : (∃ fd, FunD K "_law_script_number" "_law_script_number" (defArgs s_l_script_number) (defBody s_l_script_number) (defScope s_l_script_number) [] [] (He.ga K "_law_script_number") fd) ∧ mg "_law_script_number" = some (.ref (He.ga K "_law_script_number"))
  d_l_new_bag : (∃ fd, FunD K "_law_new_bag" "_law_new_bag" (defArgs s_l_new_bag) (defBody s_l_new_bag) (defScope s_l_new_bag) [] [] (He.ga K "_law_new_bag") fd) ∧ mg "_law_new_bag" = some (.ref (He.ga K "_law_new_bag"))
  d_l_take : (∃ fd, FunD K "_law_take" "_law_take" (defArgs s_l_take) (defBody s_l_take) (defScope s_l_take) [] [] (He.ga K "_law_take") fd) ∧ mg "_law_take" = some (.ref (He.ga K "_law_take"))
  d_l_drawn_word : (∃ fd, FunD K "_law_drawn_word" "_law_drawn_word" (defArgs s_l_drawn_word) (defBody s_l_drawn_word) (defScope s_l_drawn_word) [] [] (He.ga K "_law_drawn_word") fd) ∧ mg "_law_drawn_word" = some (.ref (He.ga K "_law_drawn_word"))
  d_l_reserved : (∃ fd, FunD K "_law_reserved" "_law_reserved" (defArgs s_l_reserved) (defBody s_l_reserved) (defScope s_l_reserved) [] [] (He.ga K "_law_reserved") fd) ∧ mg "_law_reserved" = some (.ref (He.ga K "_law_reserved"))
  d_l_drawn_integer : (∃ fd, FunD K "_law_drawn_integer" "_law_drawn_integer" (defArgs s_l_drawn_integer) (defBody s_l_drawn_integer) (defScope s_l_drawn_integer) [] [] (He.ga K "_law_drawn_integer") fd) ∧ mg "_law_drawn_integer" = some (.ref (He.ga K "_law_drawn_integer"))
  d_l_spoilt : (∃ fd, FunD K "_law_spoilt" "_law_spoilt" (defArgs s_l_spoilt) (defBody s_l_spoilt) (defScope s_l_spoilt) [] [] (He.ga K "_law_spoilt") fd) ∧ mg "_law_spoilt" = some (.ref (He.ga K "_law_spoilt"))
  d_l_drawn_thing : (∃ fd, FunD K "_law_drawn_thing" "_law_drawn_thing" (defArgs s_l_drawn_thing) (defBody s_l_drawn_thing) (defScope s_l_drawn_thing) [] [] (He.ga K "_law_drawn_thing") fd) ∧ mg "_law_drawn_thing" = some (.ref (He.ga K "_law_drawn_thing"))
  d_l_is_whole : (∃ fd, FunD K "_law_is_whole" "_law_is_whole" (defArgs s_l_is_whole) (defBody s_l_is_whole) (defScope s_l_is_whole) [] [] (He.ga K "_law_is_whole") fd) ∧ mg "_law_is_whole" = some (.ref (He.ga K "_law_is_whole"))
  d_l_is_word : (∃ fd, FunD K "_law_is_word" "_law_is_word" (defArgs s_l_is_word) (defBody s_l_is_word) (defScope s_l_is_word) [] [] (He.ga K "_law_is_word") fd) ∧ mg "_law_is_word" = some (.ref (He.ga K "_law_is_word"))
  d_l_is_worth : (∃ fd, FunD K "_law_is_worth" "_law_is_worth" (defArgs s_l_is_worth) (defBody s_l_is_worth) (defScope s_l_is_worth) [] [] (He.ga K "_law_is_worth") fd) ∧ mg "_law_is_worth" = some (.ref (He.ga K "_law_is_worth"))
  d_l_is_plain : (∃ fd, FunD K "_law_is_plain" "_law_is_plain" (defArgs s_l_is_plain) (defBody s_l_is_plain) (defScope s_l_is_plain) [] [] (He.ga K "_law_is_plain") fd) ∧ mg "_law_is_plain" = some (.ref (He.ga K "_law_is_plain"))
  d_l_is_place : (∃ fd, FunD K "_law_is_place" "_law_is_place" (defArgs s_l_is_place) (defBody s_l_is_place) (defScope s_l_is_place) [] [] (He.ga K "_law_is_place") fd) ∧ mg "_law_is_place" = some (.ref (He.ga K "_law_is_place"))
  d_l_right : (∃ fd, FunD K "_law_right" "_law_right" (defArgs s_l_right) (defBody s_l_right) (defScope s_l_right) [] [] (He.ga K "_law_right") fd) ∧ mg "_law_right" = some (.ref (He.ga K "_law_right"))
  d_l_between_right : (∃ fd, FunD K "_law_between_right" "_law_between_right" (defArgs s_l_between_right) (defBody s_l_between_right) (defScope s_l_between_right) [] [] (He.ga K "_law_between_right") fd) ∧ mg "_law_between_right" = some (.ref (He.ga K "_law_between_right"))
  d_m_law : (∃ fd, FunD K "law" "law" (defArgs s_m_law) (defBody s_m_law) (defScope s_m_law) [] [] (He.ga K "law") fd) ∧ mg "law" = some (.ref (He.ga K "law"))
section
variable {P : Program} {w : World} {K : PySem.W.Frag} {mg : Str → Option Value} {base : Heap} {G : Glo}
theorem h_p_is_integer (T : Txt P w K mg base G) (hG : G.off) : DefG P w K mg base G 2 "is_integer" 3 f_p_is_integer := by
  obtain ⟨⟨fd, F⟩, hm⟩ := T.d_p_is_integer
  exact defG_of (k := 1) hG F sc_p_is_integer hm (fun _ _ _ _ _ _ us hl => match us, hl with | [_, _, _], _ => rfl) fun cdv B o z H E hgu hr =>
      SSs.one (SS.ret (SE.and (Q.isE exCs .int T.vx (T.n_isinstance) (T.n_int) (Q.var 0)) (SE.and (SE.not (Q.isE exCs .bool T.vx (T.n_isinstance) (T.n_bool) (Q.var 0))) (SE.and1 (SE.chain od_le od_le gCmp_bl (Q.var 1) (Q.var 0) (Q.var 2))))))
theorem h_p_is_word (T : Txt P w K mg base G) (hG : G.off) : DefG P w K mg base G 2 "is_word" 1 f_p_is_word := by
  obtain ⟨⟨fd, F⟩, hm⟩ := T.d_p_is_word
  exact defG_of (k := 1) hG F sc_p_is_word hm (fun _ _ _ _ _ _ us hl => match us, hl with | [_], _ => rfl) fun cdv B o z H E hgu hr =>
      SSs.cons (SS.ite (ST.w (SW.or (ST.not (ST.tru (Q.isE exCs .str T.vx (T.n_isinstance) (T.n_str) (Q.var 0)))) (SW.or1 (ST.not (ST.chain od_le od_le gCmp_bl (SE.int) (Q.len  (T.n_len) (SA.cons (Q.var 0) (SA.nil))) (Q.globI T.c_LONGEST_WORD)))))) (SSs.one (SS.ret (SE.bl))) (SSs.nil))
      (SSs.one (SS.ret (Q.blt (cr_allD rfl) (T.n_all) (SA.cons (SE.inl (SF.lc rfl hG sc_p_is_word.nd (SI.seq (Q.var 0)) (blk_of (own := [("letter", 1)]) (by rfl)) (fun _ _ _ _ _ => Q.name 1 sc_p_is_word.nd) (fun _ _ _ _ _ => STs.nil) (fun _ _ _ _ _ => SE.cmp (od_in (room_i hr)) (Q.var 1) (Q.globS [97, 98, 99, 100, 101, 102, 103, 104, 105, 106, 107, 108, 109, 110, 111, 112, 113, 114, 115, 116, 117, 118, 119, 120, 121, 122] T.c_LETTERS)) (by decide))) (SA.nil)))))
theorem h_p_is_value (T : Txt P w K mg base G) (hG : G.off) : DefG P w K mg base G 3 "is_value" 1 f_p_is_value := by
  obtain ⟨⟨fd, F⟩, hm⟩ := T.d_p_is_value
  exact defG_of (k := 2) hG F sc_p_is_value hm (fun _ _ _ _ _ _ us hl => match us, hl with | [_], _ => rfl) fun cdv B o z H E hgu hr =>
      SSs.one (SS.ret (SE.or (SE.fn (h_p_is_integer T hG) hgu hr (takes_of rfl rfl rfl rfl) (SA.cons (Q.var 0) (SA.cons (SE.sub (SE.int) (Q.globI T.c_GREATEST)) (SA.cons (Q.globI T.c_GREATEST) (SA.nil))))) (SE.and1 (SE.fn (h_p_is_word T hG) hgu hr (takes_of rfl rfl rfl rfl) (SA.cons (Q.var 0) (SA.nil))))))
theorem h_p_is_table (T : Txt P w K mg base G) (hG : G.off) : DefG P w K mg base G 3 "is_table" 1 f_p_is_table := by
  obtain ⟨⟨fd, F⟩, hm⟩ := T.d_p_is_table
  exact defG_of (k := 2) hG F sc_p_is_table hm (fun _ _ _ _ _ _ us hl => match us, hl with | [_], _ => rfl) fun cdv B o z H E hgu hr =>
      SSs.one (SS.ret (SE.and (SE.fn (h_p_is_word T hG) hgu hr (takes_of rfl rfl rfl rfl) (SA.cons (Q.var 0) (SA.nil))) (SE.and1 (SE.cmp (od_notin (room_i hr)) (Q.var 0) (Q.globT kv_RESERVED k_RESERVED T.c_RESERVED kr_RESERVED)))))
theorem h_p_is_cell (T : Txt P w K mg base G) (hG : G.off) : DefG P w K mg base G 4 "is_cell" 1 f_p_is_cell := by
  obtain ⟨⟨fd, F⟩, hm⟩ := T.d_p_is_cell
  exact defG_of (k := 3) hG F sc_p_is_cell hm (fun _ _ _ _ _ _ us hl => match us, hl with | [_], _ => rfl) fun cdv B o z H E hgu hr =>
      SSs.one (SS.ret (SE.and (Q.isE exCs .tuple T.vx (T.n_isinstance) (T.n_tuple) (Q.var 0)) (SE.and (SE.cmp (od_eq (room_e hr)) (Q.len  (T.n_len) (SA.cons (Q.var 0) (SA.nil))) (SE.int)) (SE.and (SE.fn (h_p_is_table T hG) hgu hr (takes_of rfl rfl rfl rfl) (SA.cons (SE.ix (Q.var 0) (SE.int)) (SA.nil))) (SE.and1 (SE.fn (h_p_is_value T hG) hgu hr (takes_of rfl rfl rfl rfl) (SA.cons (SE.ix (Q.var 0) (SE.int)) (SA.nil))))))))
theorem h_l_script_number (T : Txt P w K mg base G) (hG : G.off) : DefG P w K mg base G 2 "_law_script_number" 2 f_l_script_number := by
  obtain ⟨⟨fd, F⟩, hm⟩ := T.d_l_script_number
  exact defG_of (k := 1) hG F sc_l_script_number hm (fun _ _ _ _ _ _ us hl => match us, hl with | [_, _], _ => rfl) fun cdv B o z H E hgu hr =>
      SSs.cons (SS.ite (ST.cmp od_lt (Q.var 1) (Q.len  (T.n_len) (SA.cons (Q.var 0) (SA.nil)))) (SSs.one (SS.ret (SE.ix (Q.var 0) (Q.var 1)))) (SSs.nil))
      (SSs.one (SS.ret (SE.add (SE.mul (SE.int) (Q.var 1)) (SE.int))))
theorem h_l_new_bag (T : Txt P w K mg base G) (hG : G.off) : DefG P w K mg base G 2 "_law_new_bag" 1 f_l_new_bag := by
  obtain ⟨⟨fd, F⟩, hm⟩ := T.d_l_new_bag
  exact defG_of (k := 1) hG F sc_l_new_bag hm (fun _ _ _ _ _ _ us hl => match us, hl with | [_], _ => rfl) fun cdv B o z H E hgu hr =>
      SSs.one (SS.ret (SE.new (SF.lst (SA.cons (Q.blt (cr_max2 rfl) (T.n_max) (SA.cons (SE.int) (SA.cons (SE.sub (Q.var 0) (SE.pow (SE.int) (SE.int))) (SA.nil)))) (SA.cons (SE.mod (Q.var 0) (SE.int)) (SA.cons (SE.int) (SA.nil)))))))
theorem h_l_take (T : Txt P w K mg base G) (hG : G.off) : DefG P w K mg base G 2 "_law_take" 2 f_l_take := by
  obtain ⟨⟨fd, F⟩, hm⟩ := T.d_l_take
  exact defG_of (k := 1) hG F sc_l_take hm (fun _ _ _ _ _ _ us hl => match us, hl with | [_, _], _ => rfl) fun cdv B o z H E hgu hr =>
      SSs.cons (SS.ite (ST.cmp od_gt (SE.ix (Q.var 0) (SE.int)) (SE.int)) (SSs.cons (Q.set 2 sc_l_take.nd (SE.mod (SE.ix (Q.var 0) (SE.int)) (Q.var 1)))
      (SSs.cons (SS.sub (SE.div (SE.ix (Q.var 0) (SE.int)) (Q.var 1)) (pg_sub (Q.var 0) (SE.int) set_list))
      (SSs.one (SS.ret (Q.var 2))))) (SSs.nil))
      (SSs.cons (SS.sub (SE.add (SE.ix (Q.var 0) (SE.int)) (SE.int)) (pg_sub (Q.var 0) (SE.int) set_list))
      (SSs.cons (Q.set 3 sc_l_take.nd (SE.mod (SE.pow (SE.add (SE.add (SE.ix (Q.var 0) (SE.int)) (SE.mul (SE.int) (SE.ix (Q.var 0) (SE.int)))) (SE.int)) (SE.int)) (SE.int)))
      (SSs.cons (Q.set 3 sc_l_take.nd (SE.mod (SE.pow (SE.add (Q.var 3) (SE.mul (SE.int) (SE.ix (Q.var 0) (SE.int)))) (SE.int)) (SE.int)))
      (SSs.one (SS.ret (SE.mod (SE.div (Q.var 3) (SE.int)) (Q.var 1)))))))
theorem h_l_drawn_word (T : Txt P w K mg base G) (hG : G.off) : DefG P w K mg base G 3 "_law_drawn_word" 1 f_l_drawn_word := by
  obtain ⟨⟨fd, F⟩, hm⟩ := T.d_l_drawn_word
  exact defG_of (k := 2) hG F sc_l_drawn_word hm (fun _ _ _ _ _ _ us hl => match us, hl with | [_], _ => rfl) fun cdv B o z H E hgu hr =>
      SSs.cons (Q.set 1 sc_l_drawn_word.nd (Q.str [97, 98, 99, 100, 101, 102, 103, 104, 105, 106, 107, 108, 109, 110, 111, 112, 113, 114, 115, 116, 117, 118, 119, 120, 121, 122]))
      (SSs.cons (Q.set 2 sc_l_drawn_word.nd (SE.add (SE.int) (SE.ix (SE.inl (SF.lst (SA.cons (SE.fn (h_l_take T hG) hgu hr (takes_of rfl rfl rfl rfl) (SA.cons (Q.var 0) (SA.cons (SE.int) (SA.nil)))) (SA.cons (SE.fn (h_l_take T hG) hgu hr (takes_of rfl rfl rfl rfl) (SA.cons (Q.var 0) (SA.cons (SE.int) (SA.nil)))) (SA.nil))))) (SE.fn (h_l_take T hG) hgu hr (takes_of rfl rfl rfl rfl) (SA.cons (Q.var 0) (SA.cons (SE.int) (SA.nil)))))))
      (SSs.one (SS.ret (SE.bm PySem.F.plainAttrs_str PySem.F.slot_str_join PySem.F.type_str_join mt_joinD (Q.str []) (SA.cons (SE.inl (SF.lc rfl hG sc_l_drawn_word.nd (Q.rng1 (T.n_range) (Q.var 2)) (blk_of (own := [("_law_k", 3)]) (by rfl)) (fun _ _ _ _ _ => Q.name 3 sc_l_drawn_word.nd) (fun _ _ _ _ _ => STs.nil) (fun _ _ _ _ _ => SE.ix (Q.var 1) (SE.fn (h_l_take T hG) hgu hr takes_none5 (SA.cons (Q.var 0) (SA.cons (SE.int) (SA.nil))))) (by decide))) (SA.nil))))))
theorem h_l_reserved (T : Txt P w K mg base G) (hG : G.off) : DefG P w K mg base G 2 "_law_reserved" 0 f_l_reserved := by
  obtain ⟨⟨fd, F⟩, hm⟩ := T.d_l_reserved
  exact defG_of (k := 1) hG F sc_l_reserved hm (fun _ _ _ _ _ _ us hl => match us, hl with | [], _ => rfl) fun cdv B o z H E hgu hr =>
      SSs.one (SS.ret (SE.inl (SF.bm PySem.F.plainAttrs_str PySem.F.slot_str_split PySem.F.type_str_split mt_splitD (Q.str [108, 101, 116, 32, 100, 101, 108, 32, 105, 102, 32, 101, 108, 115, 101, 32, 119, 104, 105, 108, 101, 32, 101, 97, 99, 104, 32, 105, 110, 32, 112, 114, 105, 110, 116, 32, 102, 97, 105, 108, 32, 104, 97, 115, 32, 99, 111, 117, 110, 116, 32, 115, 117, 109, 32, 110, 111, 116, 32, 97, 110, 100, 32, 111, 114, 32, 109, 111, 100]) (SA.cons (Q.str [32]) (SA.nil)))))
theorem h_l_drawn_integer (T : Txt P w K mg base G) (hG : G.off) : DefG P w K mg base G 3 "_law_drawn_integer" 1 f_l_drawn_integer := by
  obtain ⟨⟨fd, F⟩, hm⟩ := T.d_l_drawn_integer
  exact defG_of (k := 2) hG F sc_l_drawn_integer hm (fun _ _ _ _ _ _ us hl => match us, hl with | [_], _ => rfl) fun cdv B o z H E hgu hr =>
      SSs.cons (Q.set 1 sc_l_drawn_integer.nd (SE.pow (SE.int) (SE.int)))
      (SSs.cons (Q.set 2 sc_l_drawn_integer.nd (SE.add (SE.mul (SE.fn (h_l_take T hG) hgu hr (takes_of rfl rfl rfl rfl) (SA.cons (Q.var 0) (SA.cons (SE.pow (SE.int) (SE.int)) (SA.nil)))) (SE.pow (SE.int) (SE.int))) (SE.fn (h_l_take T hG) hgu hr (takes_of rfl rfl rfl rfl) (SA.cons (Q.var 0) (SA.cons (SE.pow (SE.int) (SE.int)) (SA.nil))))))
      (SSs.cons (Q.set 3 sc_l_drawn_integer.nd (SE.inl (SF.lst (SA.cons (SE.sub (SE.fn (h_l_take T hG) hgu hr (takes_of rfl rfl rfl rfl) (SA.cons (Q.var 0) (SA.cons (SE.int) (SA.nil)))) (SE.int)) (SA.cons (SE.fn (h_l_take T hG) hgu hr (takes_of rfl rfl rfl rfl) (SA.cons (Q.var 0) (SA.cons (SE.pow (SE.int) (SE.int)) (SA.nil)))) (SA.cons (SE.sub (Q.var 1) (SE.fn (h_l_take T hG) hgu hr (takes_of rfl rfl rfl rfl) (SA.cons (Q.var 0) (SA.cons (SE.int) (SA.nil))))) (SA.cons (SE.sub (SE.fn (h_l_take T hG) hgu hr (takes_of rfl rfl rfl rfl) (SA.cons (Q.var 0) (SA.cons (SE.int) (SA.nil)))) (Q.var 1)) (SA.nil))))))))
      (SSs.one (SS.ret (SE.ix (SE.add (Q.var 3) (SE.inl (SF.lst (SA.cons (SE.mul (Q.var 2) (SE.ix (SE.inl (SF.lst (SA.cons (SE.int) (SA.cons (SE.neg (SE.int)) (SA.nil))))) (SE.fn (h_l_take T hG) hgu hr (takes_of rfl rfl rfl rfl) (SA.cons (Q.var 0) (SA.cons (SE.int) (SA.nil)))))) (SA.nil))))) (SE.fn (h_l_take T hG) hgu hr (takes_of rfl rfl rfl rfl) (SA.cons (Q.var 0) (SA.cons (SE.int) (SA.nil)))))))))
theorem h_l_spoilt (T : Txt P w K mg base G) (hG : G.off) : DefG P w K mg base G 3 "_law_spoilt" 2 f_l_spoilt := by
  obtain ⟨⟨fd, F⟩, hm⟩ := T.d_l_spoilt
  exact defG_of (k := 2) hG F sc_l_spoilt hm (fun _ _ _ _ _ _ us hl => match us, hl with | [_, _], _ => rfl) fun cdv B o z H E hgu hr =>
      SSs.cons (Q.set 2 sc_l_spoilt.nd (SE.fn (h_l_take T hG) hgu hr (takes_of rfl rfl rfl rfl) (SA.cons (Q.var 0) (SA.cons (SE.add (Q.len  (T.n_len) (SA.cons (Q.var 1) (SA.nil))) (SE.int)) (SA.nil)))))
      (SSs.cons (Q.set 3 sc_l_spoilt.nd (SE.ix (Q.str [65, 66, 90, 48, 57, 95, 32, 45, 39, 35, 126, 91, 46, 10, 96, 123, 47, 58, 64]) (SE.fn (h_l_take T hG) hgu hr (takes_of rfl rfl rfl rfl) (SA.cons (Q.var 0) (SA.cons (SE.int) (SA.nil))))))
      (SSs.cons (Q.set 4 sc_l_spoilt.nd (SE.inl (SF.lst (SA.cons (Q.var 1) (SA.cons (SE.add (SE.add (SE.cut (Q.var 1) (SO.no) (SO.some (Q.var 2))) (Q.var 3)) (SE.cut (Q.var 1) (SO.some (SE.add (Q.var 2) (SE.int))) (SO.no))) (SA.cons (SE.add (SE.add (SE.cut (Q.var 1) (SO.no) (SO.some (Q.var 2))) (Q.var 3)) (SE.cut (Q.var 1) (SO.some (Q.var 2)) (SO.no))) (SA.cons (SE.add (Q.var 1) (SE.cut (Q.str [97, 98, 99, 100, 101, 102, 103, 104]) (SO.no) (SO.some (SE.sub (SE.int) (Q.len  (T.n_len) (SA.cons (Q.var 1) (SA.nil))))))) (SA.nil))))))))
      (SSs.one (SS.ret (SE.ix (SE.add (Q.var 4) (SE.inl (SF.lst (SA.cons (Q.var 1) (SA.nil))))) (SE.fn (h_l_take T hG) hgu hr (takes_of rfl rfl rfl rfl) (SA.cons (Q.var 0) (SA.cons (SE.int) (SA.nil)))))))))
theorem h_l_drawn_thing (T : Txt P w K mg base G) (hG : G.off) : DefG P w K mg base G 4 "_law_drawn_thing" 1 f_l_drawn_thing := by
  obtain ⟨⟨fd, F⟩, hm⟩ := T.d_l_drawn_thing
  exact defG_of (k := 3) hG F sc_l_drawn_thing hm (fun _ _ _ _ _ _ us hl => match us, hl with | [_], _ => rfl) fun cdv B o z H E hgu hr =>
      SSs.cons (Q.set 1 sc_l_drawn_thing.nd (SE.sub (SE.add (SE.fn (h_l_drawn_integer T hG) hgu hr (takes_of rfl rfl rfl rfl) (SA.cons (Q.var 0) (SA.nil))) (SE.fn (h_l_take T hG) hgu hr (takes_of rfl rfl rfl rfl) (SA.cons (Q.var 0) (SA.cons (SE.int) (SA.nil))))) (SE.int)))
      (SSs.cons (Q.set 2 sc_l_drawn_thing.nd (SE.fn (h_l_spoilt T hG) hgu hr (takes_of rfl rfl rfl rfl) (SA.cons (Q.var 0) (SA.cons (SE.fn (h_l_drawn_word T hG) hgu hr (takes_of rfl rfl rfl rfl) (SA.cons (Q.var 0) (SA.nil))) (SA.nil)))))
      (SSs.cons (Q.set 3 sc_l_drawn_thing.nd (SE.ix (SE.fn0 (h_l_reserved T hG) hgu hr (takes_of rfl rfl rfl rfl)) (SE.fn (h_l_take T hG) hgu hr (takes_of rfl rfl rfl rfl) (SA.cons (Q.var 0) (SA.cons (SE.int) (SA.nil))))))
      (SSs.cons (Q.set 4 sc_l_drawn_thing.nd (SE.mul (SE.pow (SE.int) (SE.int)) (SE.add (SE.int) (SE.mul (SE.fn (h_l_take T hG) hgu hr (takes_of rfl rfl rfl rfl) (SA.cons (Q.var 0) (SA.cons (SE.pow (SE.int) (SE.int)) (SA.nil)))) (SE.pow (SE.int) (SE.int))))))
      (SSs.cons (Q.set 5 sc_l_drawn_thing.nd (SE.inl (SF.lst (SA.cons (Q.var 1) (SA.cons (Q.var 2) (SA.cons (Q.var 3) (SA.cons (SE.add (Q.var 3) (SE.ix (SE.inl (SF.lst (SA.cons (Q.str [115]) (SA.cons (Q.str [32]) (SA.cons (Q.str [105, 110]) (SA.nil)))))) (SE.fn (h_l_take T hG) hgu hr (takes_of rfl rfl rfl rfl) (SA.cons (Q.var 0) (SA.cons (SE.int) (SA.nil)))))) (SA.cons (Q.var 4) (SA.cons (SE.sub (SE.int) (Q.var 4)) (SA.cons (Q.var 2) (SA.nil)))))))))))
      (SSs.cons (Q.set 5 sc_l_drawn_thing.nd (SE.add (Q.var 5) (SE.inl (SF.lst (SA.cons (SE.ix (SE.inl (SF.lst (SA.cons (SE.bl) (SA.cons (SE.bl) (SA.cons (SE.non) (SA.cons (Q.str []) (SA.cons (SE.inl (SF.lst (SA.cons (Q.var 2) (SA.nil)))) (SA.cons (SE.tup (SA.cons (Q.var 2) (SA.nil))) (SA.cons (SE.dct1 (Q.var 2) (Q.var 1)) (SA.cons (SE.int) (SA.nil))))))))))) (SE.fn (h_l_take T hG) hgu hr (takes_of rfl rfl rfl rfl) (SA.cons (Q.var 0) (SA.cons (SE.int) (SA.nil))))) (SA.nil))))))
      (SSs.one (SS.ret (SE.ix (Q.var 5) (SE.fn (h_l_take T hG) hgu hr (takes_of rfl rfl rfl rfl) (SA.cons (Q.var 0) (SA.cons (SE.int) (SA.nil))))))))))))
theorem h_l_is_whole (T : Txt P w K mg base G) (hG : G.off) : DefG P w K mg base G 2 "_law_is_whole" 1 f_l_is_whole := by
  obtain ⟨⟨fd, F⟩, hm⟩ := T.d_l_is_whole
  exact defG_of (k := 1) hG F sc_l_is_whole hm (fun _ _ _ _ _ _ us hl => match us, hl with | [_], _ => rfl) fun cdv B o z H E hgu hr =>
      SSs.one (SS.ret (SE.and (Q.isE exCs .int T.vx (T.n_isinstance) (T.n_int) (Q.var 0)) (SE.and1 (SE.not (Q.isE exCs .bool T.vx (T.n_isinstance) (T.n_bool) (Q.var 0))))))
theorem h_l_is_word (T : Txt P w K mg base G) (hG : G.off) : DefG P w K mg base G 2 "_law_is_word" 1 f_l_is_word := by
  obtain ⟨⟨fd, F⟩, hm⟩ := T.d_l_is_word
  exact defG_of (k := 1) hG F sc_l_is_word hm (fun _ _ _ _ _ _ us hl => match us, hl with | [_], _ => rfl) fun cdv B o z H E hgu hr =>
      SSs.cons (SS.ite (ST.w (SW.or (ST.not (ST.tru (Q.isE exCs .str T.vx (T.n_isinstance) (T.n_str) (Q.var 0)))) (SW.or (ST.cmp od_lt (Q.len  (T.n_len) (SA.cons (Q.var 0) (SA.nil))) (SE.int)) (SW.or1 (ST.cmp od_gt (Q.len  (T.n_len) (SA.cons (Q.var 0) (SA.nil))) (SE.int)))))) (SSs.one (SS.ret (SE.bl))) (SSs.nil))
      (SSs.one (SS.ret (SE.cmp (od_eq (room_e hr)) (SE.inl (SF.lc rfl hG sc_l_is_word.nd (SI.seq (Q.var 0)) (blk_of (own := [("_law_sign", 1)]) (by rfl)) (fun _ _ _ _ _ => Q.name 1 sc_l_is_word.nd) (fun _ _ _ _ _ => STs.one (ST.cmp (od_notin (room_i hr)) (Q.var 1) (Q.str [97, 98, 99, 100, 101, 102, 103, 104, 105, 106, 107, 108, 109, 110, 111, 112, 113, 114, 115, 116, 117, 118, 119, 120, 121, 122]))) (fun _ _ _ _ _ => Q.var 1) (by decide))) (SE.inl (SF.lst (SA.nil))))))
theorem h_l_is_worth (T : Txt P w K mg base G) (hG : G.off) : DefG P w K mg base G 3 "_law_is_worth" 1 f_l_is_worth := by
  obtain ⟨⟨fd, F⟩, hm⟩ := T.d_l_is_worth
  exact defG_of (k := 2) hG F sc_l_is_worth hm (fun _ _ _ _ _ _ us hl => match us, hl with | [_], _ => rfl) fun cdv B o z H E hgu hr =>
      SSs.one (SS.ret (SE.or (SE.fn (h_l_is_word T hG) hgu hr (takes_of rfl rfl rfl rfl) (SA.cons (Q.var 0) (SA.nil))) (SE.and1 (SE.and (SE.fn (h_l_is_whole T hG) hgu hr (takes_of rfl rfl rfl rfl) (SA.cons (Q.var 0) (SA.nil))) (SE.and (SE.cmp od_le (SE.sub (SE.int) (SE.pow (SE.int) (SE.int))) (Q.var 0)) (SE.and1 (SE.cmp od_le (Q.var 0) (SE.pow (SE.int) (SE.int)))))))))
theorem h_l_is_plain (T : Txt P w K mg base G) (hG : G.off) : DefG P w K mg base G 3 "_law_is_plain" 1 f_l_is_plain := by
  obtain ⟨⟨fd, F⟩, hm⟩ := T.d_l_is_plain
  exact defG_of (k := 2) hG F sc_l_is_plain hm (fun _ _ _ _ _ _ us hl => match us, hl with | [_], _ => rfl) fun cdv B o z H E hgu hr =>
      SSs.one (SS.ret (SE.and (SE.fn (h_l_is_word T hG) hgu hr (takes_of rfl rfl rfl rfl) (SA.cons (Q.var 0) (SA.nil))) (SE.and1 (SE.cmp (od_notin (room_i hr)) (Q.var 0) (SE.fn0 (h_l_reserved T hG) hgu hr (takes_of rfl rfl rfl rfl))))))
theorem h_l_is_place (T : Txt P w K mg base G) (hG : G.off) : DefG P w K mg base G 4 "_law_is_place" 1 f_l_is_place := by
  obtain ⟨⟨fd, F⟩, hm⟩ := T.d_l_is_place
  exact defG_of (k := 3) hG F sc_l_is_place hm (fun _ _ _ _ _ _ us hl => match us, hl with | [_], _ => rfl) fun cdv B o z H E hgu hr =>
      SSs.cons (SS.ite (ST.w (SW.or (ST.not (ST.tru (Q.isE exCs .tuple T.vx (T.n_isinstance) (T.n_tuple) (Q.var 0)))) (SW.or1 (ST.cmp (od_ne (room_e hr)) (Q.len  (T.n_len) (SA.cons (Q.var 0) (SA.nil))) (SE.int))))) (SSs.one (SS.ret (SE.bl))) (SSs.nil))
      (SSs.one (SS.ret (SE.and (SE.fn (h_l_is_plain T hG) hgu hr (takes_of rfl rfl rfl rfl) (SA.cons (SE.ix (Q.var 0) (SE.int)) (SA.nil))) (SE.and1 (SE.fn (h_l_is_worth T hG) hgu hr (takes_of rfl rfl rfl rfl) (SA.cons (SE.ix (Q.var 0) (SE.int)) (SA.nil)))))))
theorem h_l_right (T : Txt P w K mg base G) (hG : G.off) : DefG P w K mg base G 5 "_law_right" 1 f_l_right := by
  obtain ⟨⟨fd, F⟩, hm⟩ := T.d_l_right
  exact defG_of (k := 4) hG F sc_l_right hm (fun _ _ _ _ _ _ us hl => match us, hl with | [_], _ => rfl) fun cdv B o z H E hgu hr =>
      SSs.cons (Q.set 1 sc_l_right.nd (SE.inl (SF.lst (SA.cons (SE.fn (h_p_is_word T hG) hgu hr (takes_of rfl rfl rfl rfl) (SA.cons (Q.var 0) (SA.nil))) (SA.cons (SE.fn (h_p_is_value T hG) hgu hr (takes_of rfl rfl rfl rfl) (SA.cons (Q.var 0) (SA.nil))) (SA.cons (SE.fn (h_p_is_table T hG) hgu hr (takes_of rfl rfl rfl rfl) (SA.cons (Q.var 0) (SA.nil))) (SA.cons (SE.fn (h_p_is_cell T hG) hgu hr (takes_of rfl rfl rfl rfl) (SA.cons (Q.var 0) (SA.nil))) (SA.nil))))))))
      (SSs.cons (Q.set 2 sc_l_right.nd (SE.inl (SF.lst (SA.cons (SE.fn (h_l_is_word T hG) hgu hr (takes_of rfl rfl rfl rfl) (SA.cons (Q.var 0) (SA.nil))) (SA.cons (SE.fn (h_l_is_worth T hG) hgu hr (takes_of rfl rfl rfl rfl) (SA.cons (Q.var 0) (SA.nil))) (SA.cons (SE.fn (h_l_is_plain T hG) hgu hr (takes_of rfl rfl rfl rfl) (SA.cons (Q.var 0) (SA.nil))) (SA.cons (SE.fn (h_l_is_place T hG) hgu hr (takes_of rfl rfl rfl rfl) (SA.cons (Q.var 0) (SA.nil))) (SA.nil))))))))
      (SSs.one (SS.ret (SE.cmp (od_eq (room_e hr)) (Q.blt (cr_repr hgu (room_u hr)) (T.n_repr) (SA.cons (Q.var 1) (SA.nil))) (Q.blt (cr_repr hgu (room_u hr)) (T.n_repr) (SA.cons (Q.var 2) (SA.nil)))))))
theorem h_l_between_right (T : Txt P w K mg base G) (hG : G.off) : DefG P w K mg base G 3 "_law_between_right" 3 f_l_between_right := by
  obtain ⟨⟨fd, F⟩, hm⟩ := T.d_l_between_right
  exact defG_of (k := 2) hG F sc_l_between_right hm (fun _ _ _ _ _ _ us hl => match us, hl with | [_, _, _], _ => rfl) fun cdv B o z H E hgu hr =>
      SSs.cons (Q.set 3 sc_l_between_right.nd (SE.and (SE.fn (h_l_is_whole T hG) hgu hr (takes_of rfl rfl rfl rfl) (SA.cons (Q.var 0) (SA.nil))) (SE.and (SE.cmp od_le (Q.var 1) (Q.var 0)) (SE.and1 (SE.cmp od_le (Q.var 0) (Q.var 2))))))
      (SSs.one (SS.ret (SE.cmp (od_eq (room_e hr)) (Q.blt (cr_repr hgu (room_u hr)) (T.n_repr) (SA.cons (SE.fn (h_p_is_integer T hG) hgu hr (takes_of rfl rfl rfl rfl) (SA.cons (Q.var 0) (SA.cons (Q.var 1) (SA.cons (Q.var 2) (SA.nil))))) (SA.nil))) (Q.blt (cr_repr hgu (room_u hr)) (T.n_repr) (SA.cons (Q.var 3) (SA.nil))))))
theorem h_m_law (T : Txt P w K mg base G) (hG : G.off) {f : Addr} {fd : FuncData} (F : FunD K "law" "law" (defArgs s_m_law) (defBody s_m_law) (defScope s_m_law) [] [] f fd) : FnG P w K mg base 6 f fd ["_law_script"] (spOf K G 1 f_m_law) :=
  fnG_body (k := 5) hG F sc_m_law fun cdv B o z H E hgu hr =>
      SSs.cons (SS.for (passes_of rfl) rfl (Q.rng1 (T.n_range) (Q.blt (cr_max2 rfl) (T.n_max) (SA.cons (SE.int) (SA.cons (Q.blt (cr_min2 rfl) (T.n_min) (SA.cons (SE.int) (SA.cons (Q.len  (T.n_len) (SA.cons (Q.var 0) (SA.nil))) (SA.nil)))) (SA.nil))))) (Q.name 1 sc_m_law.nd) (SSs.cons (Q.set 2 sc_m_law.nd (SE.fn (h_l_new_bag T hG) hgu hr (takes_of rfl rfl rfl rfl) (SA.cons (SE.fn (h_l_script_number T hG) hgu hr (takes_of rfl rfl rfl rfl) (SA.cons (Q.var 0) (SA.cons (Q.var 1) (SA.nil)))) (SA.nil))))
      (SSs.cons (SS.par (i := 3) (j := 4) rfl sc_m_law.nd rfl rfl (by decide) rfl rfl (SE.fn (h_l_drawn_thing T hG) hgu hr (takes_of rfl rfl rfl rfl) (SA.cons (Q.var 2) (SA.nil))) (SE.fn (h_l_drawn_thing T hG) hgu hr (takes_of rfl rfl rfl rfl) (SA.cons (Q.var 2) (SA.nil))) (by rfl))
      (SSs.cons (Q.set 5 sc_m_law.nd (SE.inl (SF.lst (SA.cons (Q.var 3) (SA.cons (Q.var 4) (SA.cons (SE.tup (SA.cons (Q.var 3) (SA.cons (Q.var 4) (SA.nil)))) (SA.cons (SE.tup (SA.cons (Q.var 4) (SA.cons (Q.var 3) (SA.nil)))) (SA.cons (SE.inl (SF.lst (SA.cons (Q.var 3) (SA.cons (Q.var 4) (SA.nil))))) (SA.cons (SE.tup (SA.cons (Q.var 3) (SA.nil))) (SA.cons (SE.tup (SA.cons (Q.var 3) (SA.cons (Q.var 4) (SA.cons (Q.var 3) (SA.nil))))) (SA.cons (SE.tup (SA.cons (SE.tup (SA.cons (Q.var 3) (SA.cons (Q.var 4) (SA.nil)))) (SA.cons (Q.var 3) (SA.nil)))) (SA.nil))))))))))))
      (SSs.cons (Q.set 6 sc_m_law.nd (SE.fn (h_l_drawn_word T hG) hgu hr (takes_of rfl rfl rfl rfl) (SA.cons (Q.var 2) (SA.nil))))
      (SSs.cons (Q.set 5 sc_m_law.nd (SE.add (Q.var 5) (SE.inl (SF.lst (SA.cons (SE.tup (SA.cons (Q.var 6) (SA.cons (Q.var 3) (SA.nil)))) (SA.cons (SE.tup (SA.cons (Q.var 6) (SA.cons (Q.var 4) (SA.nil)))) (SA.cons (SE.tup (SA.cons (Q.var 3) (SA.cons (Q.var 6) (SA.nil)))) (SA.cons (SE.tup (SA.cons (Q.var 6) (SA.cons (Q.var 6) (SA.cons (Q.var 6) (SA.nil))))) (SA.cons (SE.inl (SF.lst (SA.cons (Q.var 6) (SA.cons (SE.int) (SA.nil))))) (SA.cons (SE.tup (SA.cons (Q.var 6) (SA.cons (SE.tup (SA.cons (Q.var 6) (SA.cons (SE.int) (SA.nil)))) (SA.nil)))) (SA.nil)))))))))))
      (SSs.cons (Q.set 5 sc_m_law.nd (SE.add (Q.var 5) (SE.inl (SF.lst (SA.cons (SE.tup (SA.nil)) (SA.cons (SE.inl (SF.lst (SA.nil))) (SA.cons (SE.dct0) (SA.cons (SE.tup (SA.cons (Q.var 6) (SA.nil))) (SA.cons (Q.str []) (SA.cons (SE.int) (SA.cons (SE.exn (c := 0) (c' := 15) (f' := 13) T.x_InvalidText T.g_InvalidText rfl (takes_of rfl rfl rfl rfl) hr (Q.var 6)) (SA.cons (SE.tup (SA.cons (Q.var 6) (SA.cons (SE.exn (c := 0) (c' := 15) (f' := 13) T.x_InvalidText T.g_InvalidText rfl (takes_of rfl rfl rfl rfl) hr (Q.var 6)) (SA.nil)))) (SA.cons (SE.tup (SA.cons (SE.exn (c := 0) (c' := 15) (f' := 13) T.x_InvalidText T.g_InvalidText rfl (takes_of rfl rfl rfl rfl) hr (Q.var 6)) (SA.cons (SE.int) (SA.nil)))) (SA.nil))))))))))))))
      (SSs.cons (SS.ite (ST.cmp (od_ne (room_e hr)) (SE.inl (SF.lc rfl hG sc_m_law.nd (SI.seq (Q.var 5)) (blk_of (own := [("_law_thing", 10)]) (by rfl)) (fun _ _ _ _ _ => Q.name 10 sc_m_law.nd) (fun _ _ _ _ _ => STs.one (ST.not (ST.tru (SE.fn (h_l_right T hG) hgu hr takes_none5 (SA.cons (Q.var 10) (SA.nil)))))) (fun _ _ _ _ _ => Q.var 10) (by decide))) (SE.inl (SF.lst (SA.nil)))) (SSs.one (SS.ret (SE.bl))) (SSs.nil))
      (SSs.cons (Q.set 7 sc_m_law.nd (SE.ite (ST.tru (SE.fn (h_l_is_whole T hG) hgu hr (takes_of rfl rfl rfl rfl) (SA.cons (Q.var 3) (SA.nil)))) (Q.var 3) (SE.fn (h_l_drawn_integer T hG) hgu hr (takes_of rfl rfl rfl rfl) (SA.cons (Q.var 2) (SA.nil)))))
      (SSs.cons (SS.par (i := 8) (j := 9) rfl sc_m_law.nd rfl rfl (by decide) rfl rfl (SE.sub (SE.add (Q.var 7) (SE.fn (h_l_take T hG) hgu hr (takes_of rfl rfl rfl rfl) (SA.cons (Q.var 2) (SA.cons (SE.int) (SA.nil))))) (SE.int)) (SE.sub (SE.add (Q.var 7) (SE.fn (h_l_take T hG) hgu hr (takes_of rfl rfl rfl rfl) (SA.cons (Q.var 2) (SA.cons (SE.int) (SA.nil))))) (SE.int)) (by rfl))
      (SSs.one (SS.for (passes_of rfl) rfl (SI.seq (SE.add (Q.var 5) (SE.inl (SF.lst (SA.cons (Q.var 7) (SA.cons (SE.bl) (SA.cons (SE.bl) (SA.nil)))))))) (Q.name 10 sc_m_law.nd) (SSs.cons (SS.ite (ST.w (SW.or (ST.not (ST.tru (SE.fn (h_l_between_right T hG) hgu hr (takes_of rfl rfl rfl rfl) (SA.cons (Q.var 10) (SA.cons (Q.var 8) (SA.cons (Q.var 9) (SA.nil))))))) (SW.or1 (ST.not (ST.tru (SE.fn (h_l_between_right T hG) hgu hr (takes_of rfl rfl rfl rfl) (SA.cons (Q.var 10) (SA.cons (SE.int) (SA.cons (SE.int) (SA.nil)))))))))) (SSs.one (SS.ret (SE.bl))) (SSs.nil))
      (SSs.one (SS.ite (ST.not (ST.tru (SE.fn (h_l_between_right T hG) hgu hr (takes_of rfl rfl rfl rfl) (SA.cons (Q.var 10) (SA.cons (SE.sub (SE.int) (SE.pow (SE.int) (SE.int))) (SA.cons (SE.pow (SE.int) (SE.int)) (SA.nil))))))) (SSs.one (SS.ret (SE.bl))) (SSs.nil))))))))))))))))
      (SSs.one (SS.ret (SE.bl)))
end
end Wk

namespace Wk
open PySem PySem.Spec L2 Mp
open PyProof.Rows hiding St
theorem take_ok {S : Sto} {n : Nat} {k z : Int} (B : Bag S n k) (hk : k < 1000000) (hz : 0 < z) (hz2 : z ≤ 1000000000) : ∃ r S', f_l_take [.loc n, .int z] S = .ok (.int r) S' ∧ 0 ≤ r ∧ r < z ∧ Bag S' n (k + 1) ∧ But S n S' := by
  obtain ⟨a, m, c, h, ha, hm, hm2, hc, hck⟩ := B
  have hn := lt_of_get h
  have hl : z.natAbs.log2 < 9000 := Nat.lt_trans (log_small (by omega)) (by decide)
  by_cases p : 0 < a
  · refine ⟨a % z, S.set n (.lst [.int (a / z), .int m, .int c]), ?_, Int.emod_nonneg _ (by omega), Int.emod_lt_of_pos _ hz, ⟨a / z, m, c, ?_, Int.ediv_nonneg ha (by omega), hm, hm2, hc, by omega⟩, But.set _ _ _⟩
    · unfold f_l_take b_l_take
      simp [gIx_o h, sub4_ok h, p, hz, hl, ixN]
    · simp [hn]
  · have b1 : (m + 7013 * (c + 1) + 29).natAbs < 18446744073709551616 := by omega
    have q1 := Int.emod_nonneg ((m + 7013 * (c + 1) + 29) ^ 5) (b := 2147483647) (by decide)
    have q2 := Int.emod_lt_of_pos ((m + 7013 * (c + 1) + 29) ^ 5) (b := 2147483647) (by decide)
    have b2 : ((m + 7013 * (c + 1) + 29) ^ 5 % 2147483647 + 99991 * (c + 1)).natAbs < 18446744073709551616 := by omega
    refine ⟨((((m + 7013 * (c + 1) + 29) ^ 5 % 2147483647 + 99991 * (c + 1)) ^ 3 % 2147483587) / 16) % z, S.set n (.lst [.int a, .int m, .int (c + 1)]), ?_, Int.emod_nonneg _ (by omega), Int.emod_lt_of_pos _ hz, ⟨a, m, c + 1, ?_, ha, hm, hm2, by omega, by omega⟩, But.set _ _ _⟩
    · have g1 := mul_guard 7013 (c + 1).natAbs (by decide) (by omega)
      have g3 : Nat.log2 16 < 9000 := by decide
      have g2 := mul_guard 99991 (c + 1).natAbs (by decide) (by omega)
      have h2 : (S.set n (.lst [.int a, .int m, .int (c + 1)]))[n]? = some (.lst [.int a, .int m, .int (c + 1)]) := by simp [hn]
      unfold f_l_take b_l_take
      simp [gIx_o h, sub4_ok h, p, ixN, gIx_o h2, b1, b2, hz, g1, g2, g3]
    · simp [hn]
theorem script_ok (ns : List Int) (i : Int) (S : Sto) (h : 0 ≤ i) (hi : i < 100000) : ∃ v, f_l_script_number [.scr ns, .int i] S = .ok (.int v) S := by
  obtain ⟨n, rfl⟩ := Int.eq_ofNat_of_zero_le h
  by_cases p : n < ns.length
  · refine ⟨ns[n], ?_⟩
    have p' : ((n : Nat) : Int) < ns.length := by omega
    unfold f_l_script_number b_l_script_number
    simp [p', p]
  · refine ⟨7013 * (n : Int) + 29, ?_⟩
    have p' : ¬ ((n : Nat) : Int) < ns.length := by omega
    have g := mul_guard 7013 n (by decide) (by omega)
    unfold f_l_script_number b_l_script_number
    simp [p', g]
theorem new_bag_ok (v : Int) (S : Sto) : ∃ S', f_l_new_bag [.int v] S = .ok (.loc S.length) S' ∧ Bag S' S.length 0 ∧ S'.length = S.length + 1 := by
  have q1 := Int.emod_nonneg v (b := 2147483629) (by decide)
  have q2 := Int.emod_lt_of_pos v (b := 2147483629) (by decide)
  refine ⟨S ++ [.lst [.int (if 1000000000000000000 < v then v - 1000000000000000000 else 0), .int (v % 2147483629), .int 0]], ?_, ⟨if 1000000000000000000 < v then v - 1000000000000000000 else 0, v % 2147483629, 0, by simp, ?_, q1, by omega, by omega, by omega⟩, by simp⟩
  · unfold f_l_new_bag b_l_new_bag
    simp
  · split <;> omega
theorem word_ok {S : Sto} {n : Nat} {k : Int} (B : Bag S n k) (hk : k < 900000) : ∃ x S', f_l_drawn_word [.loc n] S = .ok (.str x) S' ∧ isW x = true ∧ Bag S' n (k + 20) ∧ But S n S' := by
  obtain ⟨r1, S1, e1, g1, l1, B1, t1⟩ := take_ok B (by omega) (z := 3) (by decide) (by decide)
  obtain ⟨r2, S2, e2, g2, l2, B2, t2⟩ := take_ok B1 (by omega) (z := 8) (by decide) (by decide)
  obtain ⟨r3, S3, e3, g3, l3, B3, t3⟩ := take_ok B2 (by omega) (z := 2) (by decide) (by decide)
  obtain ⟨m, hm, hm1, hm8⟩ : ∃ m : Nat, atI [D.int r1, D.int r2] r3 = some (.int (m - 1 : Int)) ∧ 1 ≤ m ∧ m ≤ 8 := by
    obtain h | h : r3 = 0 ∨ r3 = 1 := by omega
    · subst h; exact ⟨(r1 + 1).toNat, by simp; omega, by omega, by omega⟩
    · subst h; exact ⟨(r2 + 1).toNat, by simp; omega, by omega, by omega⟩
  have hr : (1 + (m - 1 : Int)) = m := by omega
  obtain ⟨ys, S4, e4, hlen, hall, B4, t4⟩ := lcL_inv (q := rngL 0 m) (tg := tNm 3) (t := tTrue) (a := cBin gIx (cVar 1) (cCall 2 f_l_take (cCons (cVar 0) (cCons (cC (.int 26)) (cNil))))) (vs := [3]) (δ := [some (.loc n), some (.str abc), some (.int m), none]) (P := fun y => ∃ c, y = .str [c] ∧ 97 ≤ c ∧ c ≤ 122) (I := fun S' i => Bag S' n (k + 3 + i) ∧ But S n S') (rngL 0 m) S3 0 [] (by rw [rngL_len]; simp; omega) ⟨B3.mono (by omega), t1.trans (t2.trans t3)⟩ (fun d hd S' j hj hI => by
    rw [rngL_len] at hj
    obtain ⟨r, S5, e5, g5, l5, B5, t5⟩ := take_ok hI.1 (by omega) (z := 26) (by decide) (by decide)
    obtain ⟨c, rfl⟩ := Int.eq_ofNat_of_zero_le g5
    refine ⟨[some (.loc n), some (.str abc), some (.int m), some d], .str [97 + c], S5, by simp [tNm, wipeD], rfl, ?_, ⟨_, rfl, by omega, by omega⟩, B5.mono (by omega), hI.2.trans t5⟩
    simp [e5, abc_at c (by omega)])
  rw [rngL_len] at hlen B4
  obtain ⟨cs, rfl, hcs⟩ := strs_of_P hall
  simp only [List.length_map] at hlen
  refine ⟨cs, S4, ?_, ?_, B4.mono (by omega), t4⟩
  · unfold f_l_drawn_word b_l_drawn_word
    have hb : rg2 (.ok (.int m) S3) = .ok (rngL 0 m, none) S3 := rg2_nat (by omega)
    have hj := gJoin_one (S := S4) (cs := cs) (by omega)
    simp [e1, e2, e3, hm, hr, hb, e4, hj]
  · unfold isW
    simp [hlen, hm1, hm8]
    exact fun c hc => hcs c hc
theorem reserved_ok (S : Sto) : f_l_reserved [] S = .ok (.lst ((TL.spl [32] 0 [] resTx).map .str)) S := by
  unfold f_l_reserved b_l_reserved
  have h := res_split S
  simp [h]
theorem integer_ok {S : Sto} {n : Nat} {k : Int} (B : Bag S n k) (hk : k < 900000) : ∃ i S', f_l_drawn_integer [.loc n] S = .ok (.int i) S' ∧ -1000000000000000 ≤ i ∧ i ≤ 1000000000000000 ∧ Bag S' n (k + 20) ∧ But S n S' := by
  obtain ⟨r1, S1, e1, g1, l1, B1, t1⟩ := take_ok B (by omega) (z := 100000000) (by decide) (by decide)
  obtain ⟨r2, S2, e2, g2, l2, B2, t2⟩ := take_ok B1 (by omega) (z := 10000000) (by decide) (by decide)
  obtain ⟨r3, S3, e3, g3, l3, B3, t3⟩ := take_ok B2 (by omega) (z := 21) (by decide) (by decide)
  obtain ⟨r4, S4, e4, g4, l4, B4, t4⟩ := take_ok B3 (by omega) (z := 1000000) (by decide) (by decide)
  obtain ⟨r5, S5, e5, g5, l5, B5, t5⟩ := take_ok B4 (by omega) (z := 3) (by decide) (by decide)
  obtain ⟨r6, S6, e6, g6, l6, B6, t6⟩ := take_ok B5 (by omega) (z := 3) (by decide) (by decide)
  obtain ⟨r7, S7, e7, g7, l7, B7, t7⟩ := take_ok B6 (by omega) (z := 2) (by decide) (by decide)
  obtain ⟨r8, S8, e8, g8, l8, B8, t8⟩ := take_ok B7 (by omega) (z := 5) (by decide) (by decide)
  have m1 := mul_guard r1.natAbs 10000000 (by omega) (by decide)
  obtain ⟨u, hu, hu2⟩ : ∃ u : Int, atI [D.int 1, D.int (-1)] r7 = some (.int u) ∧ (u = 1 ∨ u = -1) := by
    obtain h | h : r7 = 0 ∨ r7 = 1 := by omega
    · subst h; exact ⟨1, by simp, .inl rfl⟩
    · subst h; exact ⟨-1, by simp, .inr rfl⟩
  have m2 := mul_guard (r1 * 10000000 + r2).natAbs u.natAbs (by omega) (by omega)
  have hw : -1000000000000000 ≤ (r1 * 10000000 + r2) * u ∧ (r1 * 10000000 + r2) * u ≤ 1000000000000000 := by
    rcases hu2 with h | h <;> subst h <;> omega
  obtain ⟨_, hv, v, rfl, hv1, hv2⟩ := pick (P := fun d => ∃ v : Int, d = .int v ∧ -1000000000000000 ≤ v ∧ v ≤ 1000000000000000) (xs := [D.int (r3 - 10), .int r4, .int (1000000000000000 - r5), .int (r6 - 1000000000000000), .int ((r1 * 10000000 + r2) * u)]) g8 l8 (by
    simp only [List.forall_mem_cons]
    exact ⟨⟨_, rfl, by omega, by omega⟩, ⟨_, rfl, by omega, by omega⟩, ⟨_, rfl, by omega, by omega⟩, ⟨_, rfl, by omega, by omega⟩, ⟨_, rfl, hw.1, hw.2⟩, by simp⟩)
  refine ⟨v, S8, ?_, hv1, hv2, B8.mono (by omega), t1.trans (t2.trans (t3.trans (t4.trans (t5.trans (t6.trans (t7.trans t8))))))⟩
  unfold f_l_drawn_integer b_l_drawn_integer
  simp [e1, e2, e3, e4, e5, e6, e7, e8, m1, m2, hu, hv]
theorem p_word {S : Sto} {x : List Nat} (hx : x.length ≤ 1000000) : f_p_is_word [.str x] S = .ok (.bl (isW x)) S := by
  unfold f_p_is_word b_p_is_word
  by_cases h1 : 1 ≤ x.length
  · by_cases h8 : x.length ≤ 8
    · have e1 : (1 : Int) ≤ x.length := by omega
      have e8 : (x.length : Int) ≤ 8 := by omega
      have hl := lc_in (S := S) (q := x.map fun c => .str [c]) (δ := [some (.str x), none]) (i := 1) (z := abc) (x := x) isA isA_mem (by show 1 < 2; decide) hx
      have ha := all_bl (S := S) (x := x) isA
      have hw : isW x = x.all isA := by
        unfold isW
        rw [decide_eq_true h1, decide_eq_true h8, Bool.true_and, Bool.true_and]
        rfl
      rw [hw]
      simp [hx, e1, e8, hl, ha]
    · have e8 : ¬ (x.length : Int) ≤ 8 := by omega
      have e1 : (1 : Int) ≤ x.length := by omega
      have hw : isW x = false := by unfold isW; simp [h8]
      simp [hx, e1, e8, hw]
  · have e1 : ¬ (1 : Int) ≤ x.length := by omega
    have hw : isW x = false := by unfold isW; simp [h1]
    simp [hx, e1, hw]
theorem l_word {S : Sto} {x : List Nat} (hx : TxOk 1000000 x) : f_l_is_word [.str x] S = .ok (.bl (isW x)) S := by
  have hx1 := hx.1
  unfold f_l_is_word b_l_is_word
  by_cases h1 : 1 ≤ x.length
  · by_cases h8 : x.length ≤ 8
    · have e1 : ¬ (x.length : Int) < 1 := by omega
      have e8 : ¬ (8 : Int) < x.length := by omega
      have hl := lcL_some (q := x.map fun c => .str [c]) (tg := tNm 1) (t := tB1 (cBin gNotIn (cVar 1) (cC (.str abc)))) (a := cVar 1) (vs := [1]) (δ := [some (.str x), none]) (S := S) (ds := x.map fun c => .str [c]) (f := id) (k := fun d => match d with | .str [c] => !isA c | _ => false) (fun d hd => by
        obtain ⟨c, _, rfl⟩ := List.mem_map.mp hd
        refine ⟨[some (.str x), some (.str [c])], rfl, ?_, fun _ => by simp⟩
        have := isA_mem c
        simp [this, -List.mem_cons]) [] (by simpa using hx1)
      have hf : (x.map fun c => D.str [c]).filter (fun d => match d with | .str [c] => !isA c | _ => false) = (x.filter fun c => !isA c).map fun c => .str [c] := by
        rw [List.filter_map]; rfl
      rw [hf, List.map_id, List.nil_append] at hl
      have he := eq_nil (S := S) (cs := x.filter fun c => !isA c) (fun c hc => hx.2 c (List.mem_filter.mp hc).1)
      have hw : isW x = (x.filter fun c => !isA c).isEmpty := by
        unfold isW
        rw [decide_eq_true h1, decide_eq_true h8, Bool.true_and, Bool.true_and]
        show x.all isA = _
        rw [Bool.eq_iff_iff]
        simp [List.filter_eq_nil_iff]
      rw [hw]
      simp [hx1, e1, e8, hl, he, -List.isEmpty_iff, -List.filter_eq_nil_iff]
    · have e8 : (8 : Int) < x.length := by omega
      have e1 : ¬ (x.length : Int) < 1 := by omega
      have hw : isW x = false := by unfold isW; simp [h8]
      simp [hx1, e1, e8, hw]
  · have e1 : (x.length : Int) < 1 := by omega
    have hw : isW x = false := by unfold isW; simp [h1]
    simp [hx1, e1, hw]
theorem k_res : k_RESERVED = resW.map D.str := by
  have : resW = [[108, 101, 116], [100, 101, 108], [105, 102], [101, 108, 115, 101], [119, 104, 105, 108, 101], [101, 97, 99, 104], [105, 110], [112, 114, 105, 110, 116], [102, 97, 105, 108], [104, 97, 115], [99, 111, 117, 110, 116], [115, 117, 109], [110, 111, 116], [97, 110, 100], [111, 114], [109, 111, 100]] := by decide
  rw [this]; rfl
theorem notin_t {S : Sto} {x : List Nat} (hx : ∀ c ∈ x, c < 1114112) : gNotIn S (.str x) (.tup k_RESERVED) = some (.bl (!decide (x ∈ resW))) := by
  unfold gNotIn
  rw [k_res, (in_ws hx resW_ok).1]; rfl
theorem p_table {S : Sto} {x : List Nat} (hx : TxOk 1000000 x) : f_p_is_table [.str x] S = .ok (.bl (isT x)) S := by
  have e := p_word (S := S) hx.1
  have n := notin_t (S := S) hx.2
  unfold f_p_is_table b_p_is_table isT
  cases hw : isW x <;> (rw [hw] at e; simp [e, n])
end Wk

namespace Wk
open PySem PySem.Spec L2 Mp
open PyProof.Rows hiding St
/-- but for the bag at n, what was there stands -/
def Kp (S : Sto) (n : Nat) (S' : Sto) : Prop := S.length ≤ S'.length ∧ ∀ j, j < S.length → j ≠ n → S'[j]? = S[j]?
theorem Kp.refl (S : Sto) (n : Nat) : Kp S n S := ⟨Nat.le_refl _, fun _ _ _ => rfl⟩
theorem Kp.trans {S T U : Sto} {n : Nat} (a : Kp S n T) (b : Kp T n U) : Kp S n U := ⟨Nat.le_trans a.1 b.1, fun j h h2 => (b.2 j (Nat.lt_of_lt_of_le h a.1) h2).trans (a.2 j h h2)⟩
theorem But.kp {S T : Sto} {n : Nat} (a : But S n T) : Kp S n T := ⟨Nat.le_of_eq a.1.symm, fun j _ h => a.2 j h⟩
theorem Kp.app (S T : Sto) (n : Nat) : Kp S n (S ++ T) := ⟨by simp, fun j h _ => List.getElem?_append_left h⟩
theorem Kp.get {S S' : Sto} {n j : Nat} {c : Cell} (a : Kp S n S') (hj : j ≠ n) (h : S[j]? = some c) : S'[j]? = some c := (a.2 j (lt_of_get h) hj).trans h
theorem Bag.keep {S S' : Sto} {n : Nat} {k : Int} (B : Bag S n k) (h : S'[n]? = S[n]?) : Bag S' n k := by
  obtain ⟨a, m, c, h1, r⟩ := B
  exact ⟨a, m, c, h.trans h1, r⟩
theorem Bag.lt {S : Sto} {n : Nat} {k : Int} (B : Bag S n k) : n < S.length := by
  obtain ⟨a, m, c, h1, r⟩ := B
  exact lt_of_get h1
theorem Bag.app {S : Sto} {n : Nat} {k : Int} (B : Bag S n k) (T : Sto) : Bag (S ++ T) n k := B.keep (List.getElem?_append_left B.lt)
theorem get_end {S : Sto} {c : Cell} : (S ++ [c])[S.length]? = some c := by simp
theorem isi_d {S : Sto} {n : Nat} {b : Bool} {kvs : List (D × D)} {T : Ty} (h : S[n]? = some (.dct false b kvs)) : gIsi T S (.loc n) = some (.bl (Ty.dict.sub T)) := by
  unfold gIsi tyD
  simp only [h]
  rfl
/-- a thing -/
inductive Ok (n : Nat) (S : Sto) : D → Prop where
  | non : Ok n S .non
  | bl (b : Bool) : Ok n S (.bl b)
  | int (i : Int) : Ok n S (.int i)
  | str (x : List Nat) (h : TxOk 1000 x) : Ok n S (.str x)
  | lst (ds : List D) : Ok n S (.lst ds)
  | tup0 : Ok n S (.tup [])
  | tup1 (a : D) : Ok n S (.tup [a])
  | tup2 {a b : D} (ha : Ok n S a) (hb : Ok n S b) : Ok n S (.tup [a, b])
  | tup3 (a b c : D) : Ok n S (.tup [a, b, c])
  | dct {j : Nat} {kvs : List (D × D)} (hj : j ≠ n) (h : S[j]? = some (.dct false false kvs)) : Ok n S (.loc j)
  | exn (d : D) : Ok n S (.exn 15 13 d)
theorem Ok.mono {n : Nat} {S S' : Sto} {d : D} (a : Kp S n S') (h : Ok n S d) : Ok n S' d := by
  induction h with
  | non => exact .non
  | bl b => exact .bl b
  | int i => exact .int i
  | str x h => exact .str x h
  | lst ds => exact .lst ds
  | tup0 => exact .tup0
  | tup1 a => exact .tup1 a
  | tup2 _ _ h1 h2 => exact .tup2 h1 h2
  | tup3 a b c => exact .tup3 a b c
  | dct hj h => exact .dct hj (a.get hj h)
  | exn d => exact .exn d
/-- what it is -/
def kw : D → Bool
  | .str x => isW x
  | _ => false
def ki (lo hi : Int) : D → Bool
  | .int i => decide (lo ≤ i) && decide (i ≤ hi)
  | _ => false
def kt : D → Bool
  | .str x => isT x
  | _ => false
def kv (d : D) : Bool := kw d || ki (-1000000000000000) 1000000000000000 d
def kc : D → Bool
  | .tup [a, b] => kt a && kv b
  | _ => false
theorem isW_le {x : List Nat} {L : Nat} (h : TxOk L x) (hL : L ≤ 1000000 := by decide) : TxOk 1000000 x := h.mono hL
section
variable {n : Nat} {S : Sto} {d : D}
theorem pw (h : Ok n S d) : f_p_is_word [d] S = .ok (.bl (kw d)) S := by
  cases h with
  | str x h => exact p_word (isW_le h).1
  | dct hj h => unfold f_p_is_word b_p_is_word kw; simp [isi_d h]
  | _ => unfold f_p_is_word b_p_is_word kw; simp
theorem lw (h : Ok n S d) : f_l_is_word [d] S = .ok (.bl (kw d)) S := by
  cases h with
  | str x h => exact l_word (isW_le h)
  | dct hj h => unfold f_l_is_word b_l_is_word kw; simp [isi_d h]
  | _ => unfold f_l_is_word b_l_is_word kw; simp
theorem pint (h : Ok n S d) (lo hi : Int) : f_p_is_integer [d, .int lo, .int hi] S = .ok (.bl (ki lo hi d)) S := by
  unfold f_p_is_integer b_p_is_integer ki
  cases h with
  | int i =>
    by_cases h1 : lo ≤ i
    · simp [h1]
    · simp [h1]
  | dct hj h => simp [isi_d h]
  | _ => simp
/-- a whole number -/
def kn : D → Bool
  | .int _ => true
  | _ => false
theorem lwhole (h : Ok n S d) : f_l_is_whole [d] S = .ok (.bl (kn d)) S := by
  unfold f_l_is_whole b_l_is_whole kn
  cases h with
  | dct hj h => simp [isi_d h]
  | _ => simp
theorem pval (h : Ok n S d) : f_p_is_value [d] S = .ok (.bl (kv d)) S := by
  have e1 := pint h (-1000000000000000) 1000000000000000
  have e2 := pw h
  unfold f_p_is_value b_p_is_value kv
  cases h1 : ki (-1000000000000000) 1000000000000000 d <;> cases h2 : kw d <;> (rw [h1] at e1; rw [h2] at e2; simp [e1, e2])
theorem lworth (h : Ok n S d) : f_l_is_worth [d] S = .ok (.bl (kv d)) S := by
  have e1 := lwhole h
  have e2 := lw h
  unfold f_l_is_worth b_l_is_worth kv
  cases h2 : kw d
  · rw [h2] at e2
    cases d with
    | int i =>
      have e1' : f_l_is_whole [.int i] S = .ok (.bl true) S := e1
      by_cases q : -1000000000000000 ≤ i
      · simp [e1', e2, ki, q]
      · simp [e1', e2, ki, q]
    | _ =>
      have e1' := e1
      simp only [kn] at e1'
      simp [e1', e2, ki]
  · rw [h2] at e2; simp [e2]
theorem ptab (h : Ok n S d) : f_p_is_table [d] S = .ok (.bl (kt d)) S := by
  cases h with
  | str x h => exact p_table (isW_le h)
  | dct hj h =>
    have e := pw (n := n) (.dct hj h)
    unfold f_p_is_table b_p_is_table
    simp only [kw] at e
    simp [e, kt]
  | _ =>
    unfold f_p_is_table b_p_is_table f_p_is_word b_p_is_word kt; simp
theorem lplain (h : Ok n S d) : f_l_is_plain [d] S = .ok (.bl (kt d)) S := by
  have e := lw h
  unfold f_l_is_plain b_l_is_plain
  cases h with
  | str x h =>
    have hr := reserved_ok S
    have hn := notin_l (S := S) (x := x) (isW_le h).2
    simp only [kw] at e
    cases hx : isW x <;> (rw [hx] at e; simp [e, hr, hn, kt, isT, hx])
  | _ => (simp only [kw] at e; simp [e, kt])
theorem pcell (h : Ok n S d) : f_p_is_cell [d] S = .ok (.bl (kc d)) S := by
  unfold f_p_is_cell b_p_is_cell
  cases h with
  | tup2 ha hb =>
    rename_i a b
    have e1 := ptab ha
    have e2 := pval hb
    cases h1 : kt a <;> cases h2 : kv b <;> (rw [h1] at e1; rw [h2] at e2; simp [e1, e2, kc, h1, h2])
  | dct hj h => simp [isi_d h, kc]
  | _ => simp [kc]
theorem lplace (h : Ok n S d) : f_l_is_place [d] S = .ok (.bl (kc d)) S := by
  unfold f_l_is_place b_l_is_place
  cases h with
  | tup2 ha hb =>
    rename_i a b
    have e1 := lplain ha
    have e2 := lworth hb
    cases h1 : kt a <;> cases h2 : kv b <;> (rw [h1] at e1; rw [h2] at e2; simp [e1, e2, kc, h1, h2])
  | dct hj h => simp [isi_d h, kc]
  | _ => simp [kc]
theorem rep4 (a b c e : Bool) : ∃ z, gRepr S (.lst [.bl a, .bl b, .bl c, .bl e]) = some (.str z) := by
  have h : ∀ d ∈ [D.bl a, .bl b, .bl c, .bl e], treeD S 59 d = some ((fun d => match d with | .bl b => .bool b | _ => .none) d) := by
    simp only [List.forall_mem_cons]; exact ⟨rfl, rfl, rfl, rfl, by simp⟩
  have t := tree_lst (n := 59) h
  refine ⟨_, repr_of t (sm_list (k := 0) (m := 5) ?_) (by decide) (by simp)⟩
  intro t ht
  simp at ht
  rcases ht with rfl | rfl | rfl | rfl <;> exact sm_bl _
theorem rep1 (a : Bool) : ∃ z, gRepr S (.bl a) = some (.str z) := ⟨_, repr_of (t := .bool a) rfl (sm_bl a) (by decide) (by decide)⟩
theorem right_ok (h : Ok n S d) : f_l_right [d] S = .ok (.bl true) S := by
  obtain ⟨z, hz⟩ := rep4 (S := S) (kw d) (kv d) (kt d) (kc d)
  have e1 := pw h
  have e2 := pval h
  have e3 := ptab h
  have e4 := pcell h
  have e5 := lw h
  have e6 := lworth h
  have e7 := lplain h
  have e8 := lplace h
  unfold f_l_right b_l_right
  simp [e1, e2, e3, e4, e5, e6, e7, e8, hz]
theorem between_ok (h : Ok n S d) (lo hi : Int) : f_l_between_right [d, .int lo, .int hi] S = .ok (.bl true) S := by
  obtain ⟨z, hz⟩ := rep1 (S := S) (ki lo hi d)
  have e1 := lwhole h
  have e2 := pint h lo hi
  unfold f_l_between_right b_l_between_right
  cases d with
  | int i =>
    have e1' : f_l_is_whole [.int i] S = .ok (.bl true) S := e1
    have ek : ki lo hi (.int i) = (decide (lo ≤ i) && decide (i ≤ hi)) := rfl
    by_cases q : lo ≤ i
    · rw [decide_eq_true q, Bool.true_and] at ek
      rw [ek] at e2 hz
      simp [e1', e2, q, hz]
    · rw [decide_eq_false q, Bool.false_and] at ek
      rw [ek] at e2 hz
      simp [e1', e2, q, hz]
  | _ =>
    simp only [kn] at e1
    simp only [ki] at e2 hz
    simp [e1, e2, hz]
end
end Wk

namespace Wk
open PySem PySem.Spec L2 Mp
open PyProof.Rows hiding St
theorem wz {x : List Nat} (h : isW x = true) : TxOk 40 x := (word_tx h).mono (by decide)
theorem spoilt_ok {S : Sto} {n : Nat} {k : Int} {x : List Nat} (B : Bag S n k) (hk : k < 800000) (hx : isW x = true) : ∃ y S', f_l_spoilt [.loc n, .str x] S = .ok (.str y) S' ∧ TxOk 40 y ∧ Bag S' n (k + 6) ∧ But S n S' := by
  have hxx := word_tx hx
  have hl := isW_len hx
  obtain ⟨r1, S1, e1, g1, l1, B1, t1⟩ := take_ok B (by omega) (z := (x.length : Int) + 1) (by omega) (by omega)
  obtain ⟨r2, S2, e2, g2, l2, B2, t2⟩ := take_ok B1 (by omega) (z := 19) (by decide) (by decide)
  obtain ⟨c, hc, hcc⟩ := pick (P := fun c => c < 1114112) (xs := [65, 66, 90, 48, 57, 95, 32, 45, 39, 35, 126, 91, 46, 10, 96, 123, 47, 58, 64]) g2 l2 (by decide)
  obtain ⟨r3, S3, e3, g3, l3, B3, t3⟩ := take_ok B2 (by omega) (z := 5) (by decide) (by decide)
  have hC : TxOk 1 [c] := ⟨by simp, by simpa using hcc⟩
  have k1 := hxx.cut none (some r1)
  have k2 := hxx.cut (some r1) none
  have k3 := hxx.cut (some (r1 + 1)) none
  have k4 := TxOk.cut (L := 8) (x := [97, 98, 99, 100, 101, 102, 103, 104]) ⟨by decide, by decide⟩ none (some (9 - (x.length : Int)))
  have z1 := k1.1
  have z2 := k2.1
  have z3 := k3.1
  have z4 := k4.1
  obtain ⟨_, h4, y, rfl, hy⟩ := pick (P := fun d => ∃ y, d = D.str y ∧ TxOk 40 y) (xs := [D.str x, .str (cutL x none (some r1) ++ [c] ++ cutL x (some (r1 + 1)) none), .str (cutL x none (some r1) ++ [c] ++ cutL x (some r1) none), .str (x ++ cutL [97, 98, 99, 100, 101, 102, 103, 104] none (some (9 - (x.length : Int)))), .str x]) g3 l3 (by
    simp only [List.forall_mem_cons]
    exact ⟨⟨_, rfl, wz hx⟩, ⟨_, rfl, ((k1.app hC).app k3).mono (by decide)⟩, ⟨_, rfl, ((k1.app hC).app k2).mono (by decide)⟩, ⟨_, rfl, (hxx.app k4).mono (by decide)⟩, ⟨_, rfl, wz hx⟩, by simp⟩)
  refine ⟨y, S3, ?_, hy, B3.mono (by omega), t1.trans (t2.trans t3)⟩
  have a0 : x.length ≤ 1000000 := by omega
  have a1 : (cutL x none (some r1)).length + 1 ≤ 1000000 := by omega
  have a2 : (cutL x none (some r1)).length + 1 + (cutL x (some (r1 + 1)) none).length ≤ 1000000 := by omega
  have a3 : (cutL x none (some r1)).length + 1 + (cutL x (some r1) none).length ≤ 1000000 := by omega
  have a4 : x.length + (cutL [97, 98, 99, 100, 101, 102, 103, 104] none (some (9 - (x.length : Int)))).length ≤ 1000000 := by omega
  simp at h4
  unfold f_l_spoilt b_l_spoilt
  simp [gLen_sg a0, gCut_sg a0, e1, e2, hc, a1, a2, a3, a4, e3, h4]
theorem thing_ok {S : Sto} {n : Nat} {k : Int} (B : Bag S n k) (hk : k < 600000) : ∃ d S', f_l_drawn_thing [.loc n] S = .ok d S' ∧ Ok n S' d ∧ Bag S' n (k + 100) ∧ Kp S n S' := by
  obtain ⟨i, S1, e1, g1, l1, B1, t1⟩ := integer_ok B (by omega)
  obtain ⟨r2, S2, e2, g2, l2, B2, t2⟩ := take_ok B1 (by omega) (z := 5) (by decide) (by decide)
  obtain ⟨w, S3, e3, hw, B3, t3⟩ := word_ok B2 (by omega)
  obtain ⟨y, S4, e4, hy, B4, t4⟩ := spoilt_ok B3 (by omega) hw
  have hr := reserved_ok S4
  obtain ⟨r5, S5, e5, g5, l5, B5, t5⟩ := take_ok B4 (by omega) (z := 16) (by decide) (by decide)
  obtain ⟨o, ho, hoR⟩ : ∃ w, atI ((TL.spl [32] 0 [] resTx).map D.str) r5 = some (.str w) ∧ w ∈ resW := by
    obtain ⟨n, rfl, hn, e⟩ := atI_ok (xs := (TL.spl [32] 0 [] resTx).map D.str) g5 (by rw [List.length_map, res_words.1]; omega)
    rw [List.length_map] at hn
    exact ⟨_, by rw [e, List.getElem?_map, List.getElem?_eq_getElem hn]; rfl, List.getElem_mem hn⟩
  have hox := word_tx (res_words.2 o hoR)
  obtain ⟨r6, S6, e6, g6, l6, B6, t6⟩ := take_ok B5 (by omega) (z := 100000000) (by decide) (by decide)
  have m1 := mul_guard r6.natAbs 1000000 (by omega) (by decide)
  have m2 := mul_guard 1000000000000000 (1 + r6 * 1000000).natAbs (by decide) (by omega)
  obtain ⟨r7, S7, e7, g7, l7, B7, t7⟩ := take_ok B6 (by omega) (z := 3) (by decide) (by decide)
  obtain ⟨_, h7, q, rfl, hq⟩ := pick (P := fun d => ∃ q, d = D.str q ∧ TxOk 2 q) (xs := [D.str [115], .str [32], .str [105, 110]]) g7 l7 (by
    simp only [List.forall_mem_cons]
    exact ⟨⟨_, rfl, by decide, by decide⟩, ⟨_, rfl, by decide, by decide⟩, ⟨_, rfl, by decide, by decide⟩, by simp⟩)
  obtain ⟨S8, hS8⟩ : ∃ S8, S8 = S7 ++ [Cell.dct false false [(.str y, .int (i + r2 - 2))]] := ⟨_, rfl⟩
  have B8 := B7.app [Cell.dct false false [(.str y, .int (i + r2 - 2))]]
  rw [← hS8] at B8
  obtain ⟨r9, S9, e9, g9, l9, B9, t9⟩ := take_ok B8 (by omega) (z := 8) (by decide) (by decide)
  have b7 := B7.lt
  have hd9 : S9[S7.length]? = some (.dct false false [(.str y, .int (i + r2 - 2))]) := (t9.2 _ (by omega)).trans (by rw [hS8]; exact get_end)
  obtain ⟨u, hu, hU⟩ := pick (P := Ok n S9) (xs := [D.bl true, .bl false, .non, .str [], .lst [.str y], .tup [.str y], .loc S7.length, .int 0]) g9 l9 (by
    simp only [List.forall_mem_cons]
    exact ⟨.bl _, .bl _, .non, .str _ ⟨by decide, by decide⟩, .lst _, .tup1 _, .dct (by omega) hd9, .int _, by simp⟩)
  obtain ⟨r10, S10, e10, g10, l10, B10, t10⟩ := take_ok B9 (by omega) (z := 8) (by decide) (by decide)
  have hU' := hU.mono t10.kp
  have hql := hq.1
  have hol := hox.1
  obtain ⟨d, hd, hD⟩ := pick (P := Ok n S10) (xs := [D.int (i + r2 - 2), .str y, .str o, .str (o ++ q), .int (1000000000000000 * (1 + r6 * 1000000)), .int (0 - 1000000000000000 * (1 + r6 * 1000000)), .str y, u]) g10 l10 (by
    simp only [List.forall_mem_cons]
    exact ⟨.int _, .str _ (hy.mono (by decide)), .str _ (hox.mono (by decide)), .str _ ((hox.app hq).mono (by decide)), .int _, .int _, .str _ (hy.mono (by decide)), hU', by simp⟩)
  refine ⟨d, S10, ?_, hD, B10.mono (by omega), ?_⟩
  · have q1 : o.length + q.length ≤ 1000000 := by omega
    rw [hS8] at e9
    simp at hd
    unfold f_l_drawn_thing b_l_drawn_thing
    simp [e1, e2, e3, e4, hr, e5, ho, e6, m1, m2, e7, h7, q1, cDct1, keyD, e9, hu, e10, hd]
  · have kk : Kp S7 n S8 := by rw [hS8]; exact Kp.app _ _ _
    exact ((((((((t1.kp.trans t2.kp).trans t3.kp).trans t4.kp).trans t5.kp).trans t6.kp).trans t7.kp).trans kk).trans t9.kp).trans t10.kp
end Wk

namespace Wk
open PySem PySem.Spec L2 Mp
open PyProof.Rows hiding St
theorem none_wrong {S : Sto} {n : Nat} {ds : List D} {o0 o1 o2 o3 o4 o5 o6 o7 o8 o9 o10 : Option D} (h : ∀ d ∈ ds, Ok n S d) (hl : ds.length ≤ 1000) :
    lcL (ds, none) (tNm 10) w1_m_law (cVar 10) [10] [o0, o1, o2, o3, o4, o5, o6, o7, o8, o9, o10] ds S [] = .ok [] S := by
  have := lcL_some (q := ds) (tg := tNm 10) (t := w1_m_law) (a := cVar 10) (vs := [10]) (δ := [o0, o1, o2, o3, o4, o5, o6, o7, o8, o9, o10]) (S := S) (ds := ds) (f := id) (k := fun _ => false) (fun d hd => by
    refine ⟨[o0, o1, o2, o3, o4, o5, o6, o7, o8, o9, some d], rfl, ?_, fun q => by cases q⟩
    have e := right_ok (h d hd)
    unfold w1_m_law
    simp [e]) [] (by simp; omega)
  rw [show ds.filter (fun _ => false) = [] from by simp] at this
  simpa using this
theorem thing_body {S : Sto} {n : Nat} {d : D} {lo hi : Int} {o0 o1 o2 o3 o4 o5 o6 o7 : Option D} (h : Ok n S d) : w2_m_law [o0, o1, o2, o3, o4, o5, o6, o7, some (.int lo), some (.int hi), some d] S = .nx [o0, o1, o2, o3, o4, o5, o6, o7, some (.int lo), some (.int hi), some d] S := by
  have e1 := between_ok h lo hi
  have e2 := between_ok h 0 1
  have e3 := between_ok h (-100000000000000000000000000000) 100000000000000000000000000000
  unfold w2_m_law
  simp [e1, e2, e3]
theorem body_ok {ns : List Int} {i : Int} (h0 : 0 ≤ i) (h1 : i < 1000) (S : Sto) (δ : Sl) (hδ : ∃ o2 o3 o4 o5 o6 o7 o8 o9 o10, δ = [some (.scr ns), some (.int i), o2, o3, o4, o5, o6, o7, o8, o9, o10]) : ∃ p2 p3 p4 p5 p6 p7 p8 p9 p10 S', w3_m_law δ S = .nx [some (.scr ns), some (.int i), p2, p3, p4, p5, p6, p7, p8, p9, p10] S' := by
  obtain ⟨o2, o3, o4, o5, o6, o7, o8, o9, o10, rfl⟩ := hδ
  obtain ⟨v, e1⟩ := script_ok ns i S h0 (by omega)
  obtain ⟨S1, e2, B1, hl1⟩ := new_bag_ok v S
  obtain ⟨a, S2, e3, ha, B2, k2⟩ := thing_ok B1 (by omega)
  obtain ⟨b, S3, e4, hb, B3, k3⟩ := thing_ok B2 (by omega)
  obtain ⟨w, S4, e5, hw, B4, t4⟩ := word_ok B3 (by omega)
  obtain ⟨S5, hS5⟩ : ∃ S5, S5 = S4 ++ [Cell.dct false false []] := ⟨_, rfl⟩
  have k45 : Kp S4 S.length S5 := by rw [hS5]; exact Kp.app _ _ _
  have ha5 := (ha.mono (k3.trans t4.kp)).mono k45
  have hb5 := (hb.mono t4.kp).mono k45
  have hw5 : Ok S.length S5 (.str w) := .str _ ((wz hw).mono (by decide))
  have b4 := B4.lt
  have hd5 : S5[S4.length]? = some (.dct false false []) := by rw [hS5]; exact get_end
  have B5 : Bag S5 S.length (0 + 100 + 100 + 20) := by rw [hS5]; exact B4.app _
  obtain ⟨L, hL⟩ : ∃ L, L = [a, b, .tup [a, b], .tup [b, a], .lst [a, b], .tup [a], .tup [a, b, a], .tup [.tup [a, b], a], .tup [.str w, a], .tup [.str w, b], .tup [a, .str w], .tup [.str w, .str w, .str w], .lst [.str w, .int 5], .tup [.str w, .tup [.str w, .int 5]], .tup [], .lst [], .loc S4.length, .tup [.str w], .str [], .int 0, .exn 15 13 (.str w), .tup [.str w, .exn 15 13 (.str w)], .tup [.exn 15 13 (.str w), .int 5]] := ⟨_, rfl⟩
  have all : ∀ d ∈ L, Ok S.length S5 d := by
    rw [hL]
    simp only [List.forall_mem_cons]
    exact ⟨ha5, hb5, .tup2 ha5 hb5, .tup2 hb5 ha5, .lst _, .tup1 _, .tup3 _ _ _, .tup2 (.tup2 ha5 hb5) ha5, .tup2 hw5 ha5, .tup2 hw5 hb5, .tup2 ha5 hw5, .tup3 _ _ _, .lst _, .tup2 hw5 (.tup2 hw5 (.int _)), .tup0, .lst _, .dct (by omega) hd5, .tup1 _, .str _ ⟨by decide, by decide⟩, .int _, .exn _, .tup2 hw5 (.exn _), .tup2 (.exn _) (.int _), by simp⟩
  have hLl : L.length ≤ 100 := by rw [hL]; simp
  have e6 := none_wrong (o0 := some (.scr ns)) (o1 := some (.int i)) (o2 := some (.loc S.length)) (o3 := some a) (o4 := some b) (o5 := some (.lst L)) (o6 := some (.str w)) (o7 := o7) (o8 := o8) (o9 := o9) (o10 := o10) all (by omega)
  have e7 := lwhole ha5
  -- the middle
  obtain ⟨m, S6, e8, B6, k6⟩ : ∃ (m : Int) (S6 : Sto), cIf (tTr (cCall 1 f_l_is_whole (cCons (cVar 3) (cNil)))) (cVar 3) (cCall 1 f_l_drawn_integer (cCons (cVar 2) (cNil))) [some (.scr ns), some (.int i), some (.loc S.length), some a, some b, some (.lst L), some (.str w), o7, o8, o9, o10] S5 = .ok (.int m) S6 ∧ Bag S6 S.length 300 ∧ Kp S5 S.length S6 := by
    cases a with
    | int j =>
      have e7' : f_l_is_whole [.int j] S5 = .ok (.bl true) S5 := e7
      exact ⟨j, S5, by simp [e7'], B5.mono (by omega), .refl _ _⟩
    | _ =>
      obtain ⟨j, S6, e9, _, _, B6, t6⟩ := integer_ok B5 (by omega)
      simp only [kn] at e7
      exact ⟨j, S6, by simp [e7, e9], B6.mono (by omega), t6.kp⟩
  obtain ⟨r1, S7, e9, g9, l9, B7, t7⟩ := take_ok B6 (by omega) (z := 3) (by decide) (by decide)
  obtain ⟨r2, S8, e10, g10, l10, B8, t8⟩ := take_ok B7 (by omega) (z := 4) (by decide) (by decide)
  have k58 := (k6.trans t7.kp).trans t8.kp
  have all8 : ∀ d ∈ L ++ [.int m, .bl true, .bl false], Ok S.length S8 d := fun d hd => by
    rcases List.mem_append.mp hd with q | q
    · exact (all d q).mono k58
    · simp at q
      rcases q with rfl | rfl | rfl
      · exact .int _
      · exact .bl _
      · exact .bl _
  obtain ⟨δ', S9, e11, p10, rfl, hS9, _⟩ := for_inv (it := (L ++ [.int m, .bl true, .bl false], none)) (tg := tNm 10) (s := w2_m_law)
    (I := fun rest δ S' => ∃ p10, δ = [some (.scr ns), some (.int i), some (.loc S.length), some a, some b, some (.lst L), some (.str w), some (.int m), some (.int (m + r1 - 1)), some (.int (m + r2 - 1)), p10] ∧ S' = S8 ∧ ∀ d ∈ rest, Ok S.length S8 d)
    (fun _ _ _ _ => trivial) (fun d rest δ S' ⟨p10, h1, h2, h3⟩ => by
      subst h1 h2
      exact ⟨_, _, _, rfl, .inl (thing_body (h3 d List.mem_cons_self)), some d, rfl, rfl, fun x hx => h3 x (List.mem_cons_of_mem _ hx)⟩) (L ++ [.int m, .bl true, .bl false])
    [some (.scr ns), some (.int i), some (.loc S.length), some a, some b, some (.lst L), some (.str w), some (.int m), some (.int (m + r1 - 1)), some (.int (m + r2 - 1)), o10] S8 ⟨o10, rfl, rfl, all8⟩
  refine ⟨some (.loc S.length), some a, some b, some (.lst L), some (.str w), some (.int m), some (.int (m + r1 - 1)), some (.int (m + r2 - 1)), p10, S9, ?_⟩
  have ga : gAdd S8 (.lst L) (.lst [.int m, .bl true, .bl false]) = some (.lst (L ++ [.int m, .bl true, .bl false])) := by
    show (if L.length + 3 ≤ 1000000 then some (D.lst (L ++ [.int m, .bl true, .bl false])) else none) = _
    rw [if_pos (by omega)]
  subst hL
  simp only [List.cons_append, List.nil_append] at ga e11
  rw [hS5] at e6 e8
  have hne : ∀ S : Sto, gNe S (.lst []) (.lst []) = some (.bl false) := fun S => (eq_of (S := S) (a := .lst []) (b := .lst []) rfl rfl (sm_list (ts := []) (k := 0) (m := 0) (by simp)) (sm_list (ts := []) (k := 0) (m := 0) (by simp)) (by decide) (by decide)).2
  simp at e8
  unfold w3_m_law sPar
  simp [e1, e2, e3, e4, e5, cDct0, cExn, e6, hne, e8, e9, e10, ga, e11]
theorem law_ok (ns : List Int) (hn : ns.length ≤ 63) : ∃ S, f_m_law [.scr ns] [] = .ok (.bl true) S := by
  obtain ⟨m, hm, hm1⟩ : ∃ m : Nat, (if 3 < (if (ns.length : Int) < 40 then (ns.length : Int) else 40) then (if (ns.length : Int) < 40 then (ns.length : Int) else 40) else 3) = (m : Int) ∧ m ≤ 40 := by
    by_cases p : (ns.length : Int) < 40
    · rw [if_pos p]
      by_cases r : 3 < (ns.length : Int)
      · rw [if_pos r]; exact ⟨ns.length, rfl, by omega⟩
      · rw [if_neg r]; exact ⟨3, rfl, by decide⟩
    · rw [if_neg p]; exact ⟨40, rfl, by decide⟩
  obtain ⟨δ', S', e, _⟩ := for_inv (it := (rngL 0 m, none)) (tg := tNm 1) (s := w3_m_law)
    (I := fun rest δ S' => (∃ o1 o2 o3 o4 o5 o6 o7 o8 o9 o10, δ = [some (.scr ns), o1, o2, o3, o4, o5, o6, o7, o8, o9, o10]) ∧ ∀ d ∈ rest, ∃ i : Int, d = .int i ∧ 0 ≤ i ∧ i < 1000)
    (fun _ _ _ _ => trivial) (fun d rest δ S' ⟨⟨o1, o2, o3, o4, o5, o6, o7, o8, o9, o10, h1⟩, h2⟩ => by
      subst h1
      obtain ⟨i, rfl, h0, h1⟩ := h2 d List.mem_cons_self
      obtain ⟨p2, p3, p4, p5, p6, p7, p8, p9, p10, S'', e⟩ := body_ok (ns := ns) h0 h1 S' _ ⟨o2, o3, o4, o5, o6, o7, o8, o9, o10, rfl⟩
      exact ⟨_, _, S'', rfl, .inl e, ⟨_, _, _, _, _, _, _, _, _, _, rfl⟩, fun x hx => h2 x (List.mem_cons_of_mem _ hx)⟩) (rngL 0 m) [some (.scr ns), none, none, none, none, none, none, none, none, none, none] []
    ⟨⟨_, _, _, _, _, _, _, _, _, _, rfl⟩, fun d hd => by
      obtain ⟨j, hj⟩ := List.getElem?_of_mem hd
      have hlt := (List.getElem?_eq_some_iff.mp hj).1
      rw [rngL_len] at hlt
      exact ⟨_, rngL_get m 0 j d hj, by omega, by omega⟩⟩
  have hb : rg2 (.ok (.int m) []) = .ok (rngL 0 m, none) [] := rg2_nat (by omega)
  refine ⟨S', ?_⟩
  unfold f_m_law b_m_law
  simp [hm, hb, e]
end Wk

/-! the end, printed by gen.py -/
namespace Wk
open PySem PySem.Spec L2 Mp
open PyProof.Rows hiding St
def G0 (K : PySem.W.Frag) : Glo := ⟨fun c => match c with
  | 0 => He.ga K "InvalidText"
  | _ => 0, fun c => match c with
  | 0 => "value"
  | _ => Str.empty, none⟩
def dd_p_is_integer : He.DefD := ⟨("is_integer", none), "is_integer", "is_integer", defArgs s_p_is_integer, defBody s_p_is_integer, defScope s_p_is_integer, [], []⟩
def dd_p_is_word : He.DefD := ⟨("is_word", none), "is_word", "is_word", defArgs s_p_is_word, defBody s_p_is_word, defScope s_p_is_word, [], []⟩
def dd_p_is_value : He.DefD := ⟨("is_value", none), "is_value", "is_value", defArgs s_p_is_value, defBody s_p_is_value, defScope s_p_is_value, [], []⟩
def dd_p_is_table : He.DefD := ⟨("is_table", none), "is_table", "is_table", defArgs s_p_is_table, defBody s_p_is_table, defScope s_p_is_table, [], []⟩
def dd_p_is_cell : He.DefD := ⟨("is_cell", none), "is_cell", "is_cell", defArgs s_p_is_cell, defBody s_p_is_cell, defScope s_p_is_cell, [], []⟩
def dd_l_script_number : He.DefD := ⟨("_law_script_number", none), "_law_script_number", "_law_script_number", defArgs s_l_script_number, defBody s_l_script_number, defScope s_l_script_number, [], []⟩
def dd_l_new_bag : He.DefD := ⟨("_law_new_bag", none), "_law_new_bag", "_law_new_bag", defArgs s_l_new_bag, defBody s_l_new_bag, defScope s_l_new_bag, [], []⟩
def dd_l_take : He.DefD := ⟨("_law_take", none), "_law_take", "_law_take", defArgs s_l_take, defBody s_l_take, defScope s_l_take, [], []⟩
def dd_l_drawn_word : He.DefD := ⟨("_law_drawn_word", none), "_law_drawn_word", "_law_drawn_word", defArgs s_l_drawn_word, defBody s_l_drawn_word, defScope s_l_drawn_word, [], []⟩
def dd_l_reserved : He.DefD := ⟨("_law_reserved", none), "_law_reserved", "_law_reserved", defArgs s_l_reserved, defBody s_l_reserved, defScope s_l_reserved, [], []⟩
def dd_l_drawn_integer : He.DefD := ⟨("_law_drawn_integer", none), "_law_drawn_integer", "_law_drawn_integer", defArgs s_l_drawn_integer, defBody s_l_drawn_integer, defScope s_l_drawn_integer, [], []⟩
def dd_l_spoilt : He.DefD := ⟨("_law_spoilt", none), "_law_spoilt", "_law_spoilt", defArgs s_l_spoilt, defBody s_l_spoilt, defScope s_l_spoilt, [], []⟩
def dd_l_drawn_thing : He.DefD := ⟨("_law_drawn_thing", none), "_law_drawn_thing", "_law_drawn_thing", defArgs s_l_drawn_thing, defBody s_l_drawn_thing, defScope s_l_drawn_thing, [], []⟩
def dd_l_is_whole : He.DefD := ⟨("_law_is_whole", none), "_law_is_whole", "_law_is_whole", defArgs s_l_is_whole, defBody s_l_is_whole, defScope s_l_is_whole, [], []⟩
def dd_l_is_word : He.DefD := ⟨("_law_is_word", none), "_law_is_word", "_law_is_word", defArgs s_l_is_word, defBody s_l_is_word, defScope s_l_is_word, [], []⟩
def dd_l_is_worth : He.DefD := ⟨("_law_is_worth", none), "_law_is_worth", "_law_is_worth", defArgs s_l_is_worth, defBody s_l_is_worth, defScope s_l_is_worth, [], []⟩
def dd_l_is_plain : He.DefD := ⟨("_law_is_plain", none), "_law_is_plain", "_law_is_plain", defArgs s_l_is_plain, defBody s_l_is_plain, defScope s_l_is_plain, [], []⟩
def dd_l_is_place : He.DefD := ⟨("_law_is_place", none), "_law_is_place", "_law_is_place", defArgs s_l_is_place, defBody s_l_is_place, defScope s_l_is_place, [], []⟩
def dd_l_right : He.DefD := ⟨("_law_right", none), "_law_right", "_law_right", defArgs s_l_right, defBody s_l_right, defScope s_l_right, [], []⟩
def dd_l_between_right : He.DefD := ⟨("_law_between_right", none), "_law_between_right", "_law_between_right", defArgs s_l_between_right, defBody s_l_between_right, defScope s_l_between_right, [], []⟩
def dd_m_law : He.DefD := ⟨("law", none), "law", "law", defArgs s_m_law, defBody s_m_law, defScope s_m_law, [], []⟩
def dd_x_InvalidText : He.DefD := ⟨("InvalidText", some "__init__"), "__init__", "InvalidText.__init__", defArgs s_x_InvalidText, defBody s_x_InvalidText, defScope s_x_InvalidText, [], []⟩
def fn0 : List He.DefD := [dd_p_is_integer, dd_p_is_word, dd_p_is_value, dd_p_is_table, dd_p_is_cell, dd_l_script_number, dd_l_new_bag, dd_l_take, dd_l_drawn_word, dd_l_reserved, dd_l_drawn_integer, dd_l_spoilt, dd_l_drawn_thing, dd_l_is_whole, dd_l_is_word, dd_l_is_worth, dd_l_is_plain, dd_l_is_place, dd_l_right, dd_l_between_right, dd_m_law, dd_x_InvalidText]
def fn : List He.DefD := fn0
def fa0 : List He.Fa := [.glo "is_integer", .glo "is_word", .glo "is_value", .glo "is_table", .glo "is_cell", .glo "_law_script_number", .glo "_law_new_bag", .glo "_law_take", .glo "_law_drawn_word", .glo "_law_reserved", .glo "_law_drawn_integer", .glo "_law_spoilt", .glo "_law_drawn_thing", .glo "_law_is_whole", .glo "_law_is_word", .glo "_law_is_worth", .glo "_law_is_plain", .glo "_law_is_place", .glo "_law_right", .glo "_law_between_right", .glo "law", .glo "LeftoutError", .glo "InvalidText", .free "all", .free "bool", .free "int", .free "isinstance", .free "len", .free "max", .free "min"]
def fa1 : List He.Fa := [.free "range", .free "repr", .free "str", .free "tuple", .str "LETTERS" (tx [97, 98, 99, 100, 101, 102, 103, 104, 105, 106, 107, 108, 109, 110, 111, 112, 113, 114, 115, 116, 117, 118, 119, 120, 121, 122]), .int "LONGEST_WORD" 8, .int "GREATEST" 1000000000000000, .glo "RESERVED"]
def fa : List He.Fa := (fa0 ++ fa1)
abbrev kd_RESERVED : List He.Dv := [.str (tx [108, 101, 116]), .str (tx [100, 101, 108]), .str (tx [105, 102]), .str (tx [101, 108, 115, 101]), .str (tx [119, 104, 105, 108, 101]), .str (tx [101, 97, 99, 104]), .str (tx [105, 110]), .str (tx [112, 114, 105, 110, 116]), .str (tx [102, 97, 105, 108]), .str (tx [104, 97, 115]), .str (tx [99, 111, 117, 110, 116]), .str (tx [115, 117, 109]), .str (tx [110, 111, 116]), .str (tx [97, 110, 100]), .str (tx [111, 114]), .str (tx [109, 111, 100])]
def ex (K : PySem.W.Frag) : Bool := excB K "InvalidText" "value" && bseB K (He.ga K "LeftoutError") && He.tupB K "RESERVED" kd_RESERVED && exVB K 15
abbrev R : PySem.W.OpenRow := PySem.W.OpenLaw.row PySem.Challenge.rw_leftout_k01_kinds_of_values
abbrev hk : PySem.W.Hook := hookM 6 fa fn ex
def ob (s : PySem.W.SharedT) : He.AlD × Bool := obsM 6 fa fn ex (HandSHeadRun.getT s)
theorem ob_eq (s : PySem.W.SharedT) : ob s = hk.obs s.abs := obsM_eq (HandSHeadRun.getT_eq s)
def loo0 : List Str := ["LeftoutError", "InvalidText", "LETTERS", "LONGEST_WORD", "GREATEST", "RESERVED", "is_integer", "is_word", "is_value", "is_table", "is_cell", "_law_script_number", "_law_new_bag", "_law_take", "_law_drawn_word", "_law_reserved", "_law_drawn_integer", "_law_spoilt", "_law_drawn_thing", "_law_is_whole", "_law_is_word", "_law_is_worth", "_law_is_plain", "_law_is_place", "_law_right", "_law_between_right"]
def loo : List Str := loo0
theorem run (w : World) : HandSHeadRun.RunEq R (PySem.W.view R.prog [29]) hk ob 20000 loo w := by
  intro os
  kernel_rfl
section
variable {P : Program} {w : World} {K : PySem.W.Frag} {h : Heap} {mg : Str → Option Value} {base : Heap}
theorem ex_parts (e : ex K = true) : excB K "InvalidText" "value" = true ∧ bseB K (He.ga K "LeftoutError") = true ∧ He.tupB K "RESERVED" kd_RESERVED = true ∧ exVB K 15 = true := by
  unfold ex at e
  simp only [Bool.and_eq_true] at e
  obtain ⟨⟨⟨q0, q1⟩, q2⟩, q3⟩ := e
  exact ⟨q0, q1, q2, q3⟩
theorem txt_of (X : K.In h) (G : h.Ns mainGlobals mg) (c : SaysM fa fn ex K) : Txt P w K mg base (G0 K) := by
  obtain ⟨xInvalidText, bLeftoutError, tRESERVED, vxInvalidText⟩ := ex_parts c.more
  obtain ⟨fd_InvalidText, F_InvalidText⟩ := c.d.def_ 21 (d := dd_x_InvalidText) rfl
  have i_InvalidText : FnOk P w K mg base (L2.CX P w) 2 (He.ma K (He.ga K "InvalidText") "__init__") fd_InvalidText ["self", "value"] (spIni (He.ga K "InvalidText") "value") := by
    have q := xs_of xInvalidText
    have b := bseB_ok bLeftoutError
    exact ini_ok (m := "invalid text") (st := s_x_InvalidText) F_InvalidText sc_x_InvalidText q.1 q.2 fun cdv A outer s H E => pss_cons (ps_expr (pe_baseinit (B := He.ga K "LeftoutError") (by rfl) (He.glo_ok X G (c.d.fact 21 (f := .glo "LeftoutError") rfl)) b.ga b.hr b.hf (pa_cons (pe_var (i := 0) rfl (.inl rfl)) (pa_cons pe_str pa_nil)))) (pss_one (ps_ost (pe_var (i := 0) rfl (.inl rfl)) (pe_var (i := 1) rfl (.inl rfl))))
  have B_InvalidText : Binds K fd_InvalidText ["self", "value"] [] := F_InvalidText.bindsN fun _ _ _ _ _ _ us hl => match us, hl with | [_, _], _ => rfl
  exact ⟨He.free_ok X G (c.d.fact 23 (f := .free "all") rfl),
    He.free_ok X G (c.d.fact 24 (f := .free "bool") rfl),
    He.free_ok X G (c.d.fact 25 (f := .free "int") rfl),
    He.free_ok X G (c.d.fact 26 (f := .free "isinstance") rfl),
    He.free_ok X G (c.d.fact 27 (f := .free "len") rfl),
    He.free_ok X G (c.d.fact 28 (f := .free "max") rfl),
    He.free_ok X G (c.d.fact 29 (f := .free "min") rfl),
    He.free_ok X G (c.d.fact 30 (f := .free "range") rfl),
    He.free_ok X G (c.d.fact 31 (f := .free "repr") rfl),
    He.free_ok X G (c.d.fact 32 (f := .free "str") rfl),
    He.free_ok X G (c.d.fact 33 (f := .free "tuple") rfl),
    He.str_ok X G (c.d.fact 34 (f := .str "LETTERS" (tx [97, 98, 99, 100, 101, 102, 103, 104, 105, 106, 107, 108, 109, 110, 111, 112, 113, 114, 115, 116, 117, 118, 119, 120, 121, 122])) rfl),
    He.int_ok X G (c.d.fact 35 (f := .int "LONGEST_WORD" 8) rfl),
    He.int_ok X G (c.d.fact 36 (f := .int "GREATEST" 1000000000000000) rfl),
    ⟨_, (He.glo_ok X G (c.d.fact 37 (f := .glo "RESERVED") rfl)), fun H => He.tupB_ok tRESERVED H⟩,
    excB_ok xInvalidText (He.glo_ok X G (c.d.fact 22 (f := .glo "InvalidText") rfl)) rfl rfl ⟨fd_InvalidText, _, i_InvalidText, B_InvalidText⟩,
    by simp only [exCs, List.forall_mem_cons]; exact ⟨exVB_ok vxInvalidText, by simp⟩,
    rfl,
    ⟨c.d.def_ 0 (d := dd_p_is_integer) rfl, (He.glo_ok X G (c.d.fact 0 (f := .glo "is_integer") rfl))⟩,
    ⟨c.d.def_ 1 (d := dd_p_is_word) rfl, (He.glo_ok X G (c.d.fact 1 (f := .glo "is_word") rfl))⟩,
    ⟨c.d.def_ 2 (d := dd_p_is_value) rfl, (He.glo_ok X G (c.d.fact 2 (f := .glo "is_value") rfl))⟩,
    ⟨c.d.def_ 3 (d := dd_p_is_table) rfl, (He.glo_ok X G (c.d.fact 3 (f := .glo "is_table") rfl))⟩,
    ⟨c.d.def_ 4 (d := dd_p_is_cell) rfl, (He.glo_ok X G (c.d.fact 4 (f := .glo "is_cell") rfl))⟩,
    ⟨c.d.def_ 5 (d := dd_l_script_number) rfl, (He.glo_ok X G (c.d.fact 5 (f := .glo "_law_script_number") rfl))⟩,
    ⟨c.d.def_ 6 (d := dd_l_new_bag) rfl, (He.glo_ok X G (c.d.fact 6 (f := .glo "_law_new_bag") rfl))⟩,
    ⟨c.d.def_ 7 (d := dd_l_take) rfl, (He.glo_ok X G (c.d.fact 7 (f := .glo "_law_take") rfl))⟩,
    ⟨c.d.def_ 8 (d := dd_l_drawn_word) rfl, (He.glo_ok X G (c.d.fact 8 (f := .glo "_law_drawn_word") rfl))⟩,
    ⟨c.d.def_ 9 (d := dd_l_reserved) rfl, (He.glo_ok X G (c.d.fact 9 (f := .glo "_law_reserved") rfl))⟩,
    ⟨c.d.def_ 10 (d := dd_l_drawn_integer) rfl, (He.glo_ok X G (c.d.fact 10 (f := .glo "_law_drawn_integer") rfl))⟩,
    ⟨c.d.def_ 11 (d := dd_l_spoilt) rfl, (He.glo_ok X G (c.d.fact 11 (f := .glo "_law_spoilt") rfl))⟩,
    ⟨c.d.def_ 12 (d := dd_l_drawn_thing) rfl, (He.glo_ok X G (c.d.fact 12 (f := .glo "_law_drawn_thing") rfl))⟩,
    ⟨c.d.def_ 13 (d := dd_l_is_whole) rfl, (He.glo_ok X G (c.d.fact 13 (f := .glo "_law_is_whole") rfl))⟩,
    ⟨c.d.def_ 14 (d := dd_l_is_word) rfl, (He.glo_ok X G (c.d.fact 14 (f := .glo "_law_is_word") rfl))⟩,
    ⟨c.d.def_ 15 (d := dd_l_is_worth) rfl, (He.glo_ok X G (c.d.fact 15 (f := .glo "_law_is_worth") rfl))⟩,
    ⟨c.d.def_ 16 (d := dd_l_is_plain) rfl, (He.glo_ok X G (c.d.fact 16 (f := .glo "_law_is_plain") rfl))⟩,
    ⟨c.d.def_ 17 (d := dd_l_is_place) rfl, (He.glo_ok X G (c.d.fact 17 (f := .glo "_law_is_place") rfl))⟩,
    ⟨c.d.def_ 18 (d := dd_l_right) rfl, (He.glo_ok X G (c.d.fact 18 (f := .glo "_law_right") rfl))⟩,
    ⟨c.d.def_ 19 (d := dd_l_between_right) rfl, (He.glo_ok X G (c.d.fact 19 (f := .glo "_law_between_right") rfl))⟩,
    ⟨c.d.def_ 20 (d := dd_m_law) rfl, (He.glo_ok X G (c.d.fact 20 (f := .glo "law") rfl))⟩⟩
end
theorem fin (hp : ∀ ns : List Int, ns.length ≤ 63 → ∃ S, f_m_law [.scr ns] [] = .ok (.bl true) S) : PySem.Challenge.rw_leftout_k01_kinds_of_values.Holds := by
  w_on; o_law
  refine HandSHeadRun.head_any (r := R) (q := PySem.W.view R.prog [29]) (H := hk) (ob := ob) (M := 20000) (loose := loo) (d := HandSHeadRun.topDef R.prog 29) (kwd := []) ob_eq (by kernel_rfl) (fun s => by kernel_rfl) run (by kernel_rfl) (by kernel_rfl) (by kernel_rfl) (by rfl) (by first | assumption | decide +kernel) (by decide +kernel) ⟨rfl, rfl, rfl, rfl, rfl, by decide +kernel⟩ ?hw ?hc
  case hw => w_witness2
  case hc =>
    refine walkG (l := PySem.Challenge.rw_leftout_k01_kinds_of_values) (n := 63) (k := 6) (x := "_law_script") (g := f_m_law) rfl (by decide) (by kernel_rfl) ⟨rfl, by decide, by decide⟩ hp ?F
    intro w mg fa h Y G hmg0
    obtain ⟨K, KX, c⟩ := Y
    have hmg : mg ("law" : PySem.Str) = some (.ref fa) := by
      have e : (HandSHeadRun.topDef R.prog 29).name = ("law" : PySem.Str) := by kernel_rfl
      rw [← e]; exact hmg0
    obtain ⟨fd, F⟩ := c.d.def_ 20 (d := dd_m_law) rfl
    have e := hmg.symm.trans (He.glo_ok KX G (c.d.fact 20 (f := .glo "law") rfl))
    cases e
    have b := FunD.bindsA (ps := ["_law_script"]) F fun _ _ _ _ _ _ us hl => match us, hl with | [_], _ => rfl
    exact ⟨K, fd, G0 K, KX, fun s v => b s [v] rfl, fun base _ _ => h_m_law (txt_of KX G c) rfl F⟩
end Wk

theorem PySem.Challenge.cw_leftout_k01_kinds_of_values_holds : PySem.Challenge.rw_leftout_k01_kinds_of_values.Holds := by
  exact Wk.fin Wk.law_ok

