import PyProof.Rows.All
import Wide.All
import OpenK.AllK
import Wide.FinOn
import HandS.ForMost
import HandS.SetFor
import PyProof.EqAt
import PyProof.EqKinds
import PyProof.TupleCall
import HandS.Wide
import HandS.TupAny
import HandS.SortInts
import HandS.Conv
import HandS.Style
import HandS.Strs
import HandS.IsInst
import HandS.Defaults
import HandS.Ends
import HandS.HeadEnd
import HandS.HeadHook2
import HandS.Head2
import HandS.Codes
import HandS.OwnEq
import HandS.DictSub
import HandS.Dict
import HandS.Small
import KE.KIntText
import PyProof.StrOps2
import HandS.Text
import HandS.Zip
import KE.GoesZip
import KE.GoesMore
import KE.GoesEnum
import HandS.WordsDict
import PySem.Challenge.RW_evenfailover_k90_whole_great_failures_by
set_option Elab.async false
set_option linter.all false
set_option maxRecDepth 100000
set_option maxHeartbeats 4000000
/-! set(xs) of a list of ints -/
namespace L2
open PySem PySem.Spec PyProof.Rows
section
variable {P : Program} {w : World} {A : Around} {E : Value → Shared → Prop} {s : Shared}
abbrev newS (w : World) : Obj := { cls := .type "set", dict := none, data := .set #[] 0 (.fresh 0 0 (!w.params.followText "set-order")) }
theorem call_set_lstI {l : Addr} {items : Array Value} (ns : List Int) {Q : Value → Shared → Prop} (hh : A.handled = none) (hl : s.heap.IsList l items) (hit : IntsAre items.toList ns) (hb : ns.length + 1 < scanBound)
    (h : ∀ (h' : Heap) (tk c : Nat), SetR w h' s.heap.objs.size (fun j => decide (j ∈ ns)) c → c ≤ ns.length → (∀ b o, s.heap.get? b = some o → h'.get? b = some o) → Q (.ref s.heap.objs.size) { s with heap := h', toks := tk }) :
    wpAny (model P w) A (call (.type "set") [.ref l]) Q E s := by
  have hisz : items.size = ns.length := by simpa using IntsAre.length hit
  obtain ⟨c, tl, hmro⟩ := F.called_set.mro
  have hmade := F.called_set.made
  have hsub := F.called_set.sub
  refine wpAny_call (codeAny_of_tree ?_)
  show wpAny _ _ (callAny (.type "set") _) _ _ _
  refine wpAny_pure ⟨Code.quiet_builtin _ (by decide +kernel), codeAny_builtin F.entry_type_call ?_⟩
  rw [Around.under_plain (weight_type_call_type "set" [.ref l] []) rfl]
  have h1 := F.called_set.notType
  have h2 := F.called_set.canCreate
  have hct := F.typeCall_set_1 (.ref l)
  repeat (any_goals (first | assumption | wp_step))
  refine codeAny_mono (code_set_led1 (.ref l) (E := E) (Q₁ := fun obj s₁ => obj = .ref s.heap.objs.size ∧ s₁ = { s with heap := s.heap.push (newS w) }) ⟨rfl, rfl⟩) fun r s₁ hr => ?_
  cases r with
  | error e => exact hr
  | ok fl =>
    cases fl with
    | ret obj =>
      obtain ⟨rfl, rfl⟩ := hr
      have hS : (s.heap.push (newS w)).get? s.heap.objs.size = some (newS w) := Heap.get?_push_size _ rfl
      have hT : Shared.TypeIs { s with heap := s.heap.push (newS w) } (.ref s.heap.objs.size) "set" := ⟨_, hS, rfl⟩
      have hli := F.called_set.init.lookup
      have hbi := F.called_set.init.bind (.ref s.heap.objs.size)
      repeat (any_goals (first | assumption | wp_step))
      refine codeAny_mono (codeAny_call_builtin (R := wants (fun r s₂ => r = .none ∧ ∃ h' tk c, s₂ = { s with heap := h', toks := tk } ∧ SetR w h' s.heap.objs.size (fun j => decide (j ∈ ns)) c ∧ c ≤ ns.length ∧
          (∀ b o, s.heap.get? b = some o → h'.get? b = some o)) E) F.called_set.init.plain F.entry_set_init (check_set_init_1 hT ?_)) fun r₂ s₂ hr₂ => ?_
      · obtain ⟨⟨ocls, odict, odata, oslots⟩, hol, hcl, nl, hdl⟩ := hl
        simp only at hcl hdl
        subst hcl; subst hdl
        have hol' : (s.heap.push (newS w)).get? l = some { cls := .type "list", dict := odict, data := .seq items nl, slots := oslots } := Heap.get?_push_of_some _ hol
        have hsls := F.sub_list_set
        have hslf := F.sub_list_frozenset
        have hne : (Value.type "list" == Value.type "dict") = false := by decide
        have hl1 : (s.heap.push (newS w)).IsList l items := ⟨_, hol', rfl, nl, rfl⟩
        unfold Builtin.«set.__init__» noKeywords Builtin.Frozenset.updateFrom
        generalize hPI : pyIter = PI
        wp_walk
        subst hPI
        refine wpAny_pyIter_list hl1 ?_
        refine wpAny_bind (wpAny_runValue ?_)
        have hlS : l < s.heap.objs.size := Heap.lt_size hol
        have hh3 : A.in1.in1.in1.handled = none := by simp [hh]
        have hz1 : (s.heap.push (newS w)).objs.size = s.heap.objs.size + 1 := Heap.size_push ..
        have hneI : l ≠ (s.heap.push (newS w)).objs.size := Nat.ne_of_lt (by rw [hz1]; exact Nat.lt_succ_of_lt hlS)
        have hSf : s.heap.objs.size ∉ [(s.heap.push (newS w)).objs.size, l] := by
          simp only [List.mem_cons, List.mem_singleton, List.not_mem_nil, or_false, not_or]
          exact ⟨Nat.ne_of_lt (by rw [hz1]; exact Nat.lt_succ_self _), Nat.ne_of_gt hlS⟩
        have hval : ∀ (i : Nat) (v : Value), items[i]? = some v → ∃ k t, ns[i]? = some k ∧ v = .int k t := fun i v hv => by
          have hi : i < ns.length := by rw [← hisz]; exact (Array.getElem?_eq_some_iff.mp hv).1
          obtain ⟨t, e⟩ := PyProof.Rows.IntsAre.int_at hit i v (by rw [Array.getElem?_toList]; exact hv)
          refine ⟨ns[i], t, List.getElem?_eq_getElem hi, ?_⟩
          rw [e, List.getD_eq_getElem?_getD, List.getElem?_eq_getElem hi] <;> rfl
        refine set_update_ints ((Walks.list hh3 _ l hneI items).toS) s.heap.objs.size hSf ns hisz hb hval (items.size - 0) 0 _ (by omega) (Nat.zero_le _)
          ⟨⟨_, Heap.get?_push_size _ rfl, rfl, rfl⟩, (hl1.push _)⟩ ⟨0, Nat.le_refl 0, setR_new_at (Heap.get?_push_of_some _ hS)⟩ ?hR
        case hR =>
          intro s' c' hm hc' hS'
          obtain ⟨h', g2, d', tk', os'⟩ := s'
          obtain rfl : g2 = s.gens := hm.gens
          obtain rfl : d' = s.drawn := hm.drawn
          obtain rfl : os' = s.os := hm.os
          show wpAny _ _ _ _ _ _
          refine wpAny_pure ?_
          show wpAny _ _ (ret Value.none) _ _ _
          rw [hisz] at hc'
          refine wpAny_pure ⟨rfl, h', tk', c', rfl, hS', hc', fun b o e => ?_⟩
          have hb0 : b < s.heap.objs.size := Heap.lt_size e
          exact hm.heap b o (by simp only [List.mem_cons, List.mem_singleton, List.not_mem_nil, or_false, not_or]; exact ⟨Nat.ne_of_lt hb0, Nat.ne_of_lt (by rw [hz1]; exact Nat.lt_succ_of_lt hb0)⟩) (Heap.get?_push_of_some _ (Heap.get?_push_of_some _ e))
      · cases r₂ with
        | error e => exact hr₂
        | ok fl₂ =>
          cases fl₂ with
          | ret r =>
            obtain ⟨rfl, h', tk, c', rfl, hS', hc', hk'⟩ := hr₂
            repeat (any_goals (first | assumption | wp_step))
            exact h _ _ _ hS' hc' hk'
          | _ => exact hr₂.elim
    | _ => exact hr.elim
end
end L2

set_option Elab.async false
set_option linter.all false
set_option maxRecDepth 100000
set_option maxHeartbeats 2000000
namespace DL
open PySem PySem.Spec PyProof.Rows L2

/-! ### data and what stands for them -/
abbrev D := PyData
/-- an object by its address -/
def ob (a : Addr) : D := .dict [(.none, .int (a : Int))]
/-- the law's script -/
def scr (ns : List Int) : D := .dict [(.bool true, .list (ns.map .int))]
/-- a tuple that is known to bear no dict of its own -/
def ntup (ds : List D) : D := .dict [(.bool false, .tuple ds)]
/-- a built-in class as a value -/
def tyD (n : String) : D := .dict [(.int 0, .str (Str.ofString n))]
/-- at a: a tuple, known to its object -/
def FzT (H : Hp) (a : Addr) (xs : List V) : Prop := ∃ o, H a = some (.frz o (.tup xs)) ∧ o.dict = none
/-- at a: a list that nobody writes -/
def FzL (K : PySem.W.Frag) (H : Hp) (a : Addr) (xs : List V) : Prop :=
  (∃ o, H a = some (.frz o (.lst xs))) ∨
    ∃ (o : Obj) (its : Array Value) (n : Nat), K.lookup a = some o ∧ o.cls = .type "list" ∧ o.dict = none ∧ o.data = .seq its n ∧ its.size ≤ sizeLine ∧ Vals xs its.toList
theorem FzL.sq {K : PySem.W.Frag} {H : Hp} {a : Addr} {xs : List V} (h : FzL K H a xs) : SqL K H a xs := by
  rcases h with ⟨o, h⟩ | h
  · exact .inl (.inr ⟨o, h⟩)
  · exact .inr h

mutual
inductive Rp (K : PySem.W.Frag) (U : Addr → Prop) (H : Hp) : V → PyData → Prop
  | non : Rp K U H .non .none
  | bl (b : Bool) : Rp K U H (.bl b) (.bool b)
  | int (i : Int) : Rp K U H (.int i) (.int i)
  | str (x : Str) : Rp K U H (.str x) (.str x)
  | lst {a : Addr} {xs : List V} {ds : List PyData} : ¬ U a → H a = some (.lst xs) → RpAll K U H xs ds → Rp K U H (.ref a) (.list ds)
  | tup {a : Addr} {xs : List V} {ds : List PyData} : SqT K H a xs → RpAll K U H xs ds → Rp K U H (.ref a) (.tuple ds)
  | ob (a : Addr) : Rp K U H (.ref a) (ob a)
  | scr {a : Addr} {ns : List Int} : FzL K H a (ns.map V.int) → Rp K U H (.ref a) (scr ns)
  | ty (n : String) : Rp K U H (.ty n) (tyD n)
  | ntup {a : Addr} {xs : List V} {ds : List PyData} : FzT H a xs → RpAll K U H xs ds → Rp K U H (.ref a) (ntup ds)
inductive RpAll (K : PySem.W.Frag) (U : Addr → Prop) (H : Hp) : List V → List PyData → Prop
  | nil : RpAll K U H [] []
  | cons {v : V} {vs : List V} {d : PyData} {ds : List PyData} : Rp K U H v d → RpAll K U H vs ds → RpAll K U H (v :: vs) (d :: ds)
end

/-- what may change is tracked and mutable -/
def UOk (U : Addr → Prop) (H : Hp) : Prop := ∀ a o, U a → H a = some o → Mut (some o)
/-- all else is kept -/
def ExU (U : Addr → Prop) (H H' : Hp) : Prop := ∀ a o, H a = some o → ¬ U a → H' a = some o
theorem ExU.refl {U : Addr → Prop} {H : Hp} : ExU U H H := fun _ _ h _ => h
theorem ExU.trans {U : Addr → Prop} {H H1 H2 : Hp} (a : ExU U H H1) (b : ExU U H1 H2) : ExU U H H2 := fun x o h n => b x o (a x o h n) n
theorem ExU.new {U : Addr → Prop} {H : Hp} {p : Addr} {o : HO} (h : H p = none) : ExU U H (upd H p o) := fun a u e _ => by
  rw [upd_ne (ne_of_none e h)]
  exact e
theorem ExU.put {U : Addr → Prop} {H : Hp} {p : Addr} {o : HO} (h : U p) : ExU U H (upd H p o) := fun a u e n => by
  rw [upd_ne (fun z => n (by rw [z]; exact h))]
  exact e
theorem ExU.mono {U U' : Addr → Prop} {H H' : Hp} (e : ExU U H H') (h : ∀ a, U a → U' a) : ExU U' H H' := fun a o x n => e a o x fun z => n (h a z)
theorem ex_rd {U : Addr → Prop} {H H' : Hp} {a : Addr} {u : HO} (e : ExU U H H') (n : ¬ U a) (h : Rd H a u) : Rd H' a u := by
  rcases h with h | ⟨o, h⟩
  · exact .inl (e a _ h n)
  · exact .inr ⟨o, e a _ h n⟩
theorem ex_tup {K : PySem.W.Frag} {U : Addr → Prop} {H H' : Hp} {a : Addr} {xs : List V} (ok : UOk U H) (e : ExU U H H') (h : SqT K H a xs) : SqT K H' a xs := by
  rcases h with h | h
  · refine .inl (ex_rd e (fun z => ?_) h)
    rcases h with h | ⟨u, h⟩
    · exact ok a _ z h
    · exact ok a _ z h
  · exact .inr h
theorem ex_fz {K : PySem.W.Frag} {U : Addr → Prop} {H H' : Hp} {a : Addr} {xs : List V} (ok : UOk U H) (e : ExU U H H') (h : FzL K H a xs) : FzL K H' a xs := by
  rcases h with ⟨o, h⟩ | h
  · exact .inl ⟨o, e a _ h fun z => ok a _ z h⟩
  · exact .inr h
theorem ex_fzt {U : Addr → Prop} {H H' : Hp} {a : Addr} {xs : List V} (ok : UOk U H) (e : ExU U H H') (h : FzT H a xs) : FzT H' a xs := by
  obtain ⟨o, h, q⟩ := h
  exact ⟨o, e a _ h fun z => ok a _ z h, q⟩
mutual
theorem Rp.mono {K : PySem.W.Frag} {U : Addr → Prop} {H H' : Hp} (ok : UOk U H) (e : ExU U H H') : ∀ {v : V} {d : PyData}, Rp K U H v d → Rp K U H' v d
  | _, _, .non => .non
  | _, _, .bl b => .bl b
  | _, _, .int i => .int i
  | _, _, .str x => .str x
  | _, _, .lst n h r => .lst n (e _ _ h n) (RpAll.mono ok e r)
  | _, _, .scr h => .scr (ex_fz ok e h)
  | _, _, .ntup h r => .ntup (ex_fzt ok e h) (RpAll.mono ok e r)
  | _, _, .tup h r => .tup (ex_tup ok e h) (RpAll.mono ok e r)
  | _, _, .ob a => .ob a
  | _, _, .ty n => .ty n
theorem RpAll.mono {K : PySem.W.Frag} {U : Addr → Prop} {H H' : Hp} (ok : UOk U H) (e : ExU U H H') : ∀ {v : List V} {d : List PyData}, RpAll K U H v d → RpAll K U H' v d
  | _, _, .nil => .nil
  | _, _, .cons h r => .cons (Rp.mono ok e h) (RpAll.mono ok e r)
end
mutual
theorem Rp.weak {K : PySem.W.Frag} {U U' : Addr → Prop} {H : Hp} (e : ∀ a, U' a → U a) : ∀ {v : V} {d : PyData}, Rp K U H v d → Rp K U' H v d
  | _, _, .non => .non
  | _, _, .bl b => .bl b
  | _, _, .int i => .int i
  | _, _, .str x => .str x
  | _, _, .lst n h r => .lst (fun z => n (e _ z)) h (RpAll.weak e r)
  | _, _, .tup h r => .tup h (RpAll.weak e r)
  | _, _, .ob a => .ob a
  | _, _, .ty n => .ty n
  | _, _, .scr h => .scr h
  | _, _, .ntup h r => .ntup h (RpAll.weak e r)
theorem RpAll.weak {K : PySem.W.Frag} {U U' : Addr → Prop} {H : Hp} (e : ∀ a, U' a → U a) : ∀ {v : List V} {d : List PyData}, RpAll K U H v d → RpAll K U' H v d
  | _, _, .nil => .nil
  | _, _, .cons h r => .cons (Rp.weak e h) (RpAll.weak e r)
end
/-- one more address that may change, unknown so far -/
def more (U : Addr → Prop) (l : Addr) : Addr → Prop := fun a => U a ∨ a = l
mutual
theorem Rp.grow {K : PySem.W.Frag} {U : Addr → Prop} {H : Hp} {l : Addr} (hl : H l = none) : ∀ {v : V} {d : PyData}, Rp K U H v d → Rp K (more U l) H v d
  | _, _, .non => .non
  | _, _, .bl b => .bl b
  | _, _, .int i => .int i
  | _, _, .str x => .str x
  | _, _, .lst (a := a) n h r => .lst (fun z => by
      rcases z with z | z
      · exact n z
      · rw [z, hl] at h; cases h) h (RpAll.grow hl r)
  | _, _, .scr h => .scr h
  | _, _, .ntup h r => .ntup h (RpAll.grow hl r)
  | _, _, .tup h r => .tup h (RpAll.grow hl r)
  | _, _, .ob a => .ob a
  | _, _, .ty n => .ty n
theorem RpAll.grow {K : PySem.W.Frag} {U : Addr → Prop} {H : Hp} {l : Addr} (hl : H l = none) : ∀ {v : List V} {d : List PyData}, RpAll K U H v d → RpAll K (more U l) H v d
  | _, _, .nil => .nil
  | _, _, .cons h r => .cons (Rp.grow hl h) (RpAll.grow hl r)
end
section
variable {K : PySem.W.Frag} {U : Addr → Prop} {H : Hp}
theorem RpAll.length {xs : List V} {ds : List D} (h : RpAll K U H xs ds) : xs.length = ds.length := by
  induction ds generalizing xs with
  | nil => cases h; rfl
  | cons d ds ih => cases h with
    | cons a b => rw [List.length_cons, List.length_cons, ih b]
theorem RpAll.get {xs : List V} {ds : List D} (h : RpAll K U H xs ds) : ∀ {i : Nat} {d : D}, ds[i]? = some d → ∃ v, xs[i]? = some v ∧ Rp K U H v d := by
  induction ds generalizing xs with
  | nil => intro i d e; simp at e
  | cons d0 ds ih =>
    intro i d e
    cases h with
    | cons a b =>
      cases i with
      | zero =>
        have : d0 = d := by simpa using e
        subst this
        exact ⟨_, rfl, a⟩
      | succ i => exact ih b (by simpa using e)
theorem RpAll.get' {xs : List V} {ds : List D} (h : RpAll K U H xs ds) : ∀ {i : Nat} {v : V}, xs[i]? = some v → ∃ d, ds[i]? = some d ∧ Rp K U H v d := by
  induction ds generalizing xs with
  | nil => intro i d e; cases h; simp at e
  | cons d0 ds ih =>
    intro i v e
    cases h with
    | cons a b =>
      cases i with
      | zero =>
        have := Option.some.inj e
        subst this
        exact ⟨_, rfl, a⟩
      | succ i => exact ih b (by simpa using e)
theorem RpAll.append {xs ys : List V} {ds es : List D} (h : RpAll K U H xs ds) (k : RpAll K U H ys es) : RpAll K U H (xs ++ ys) (ds ++ es) := by
  induction ds generalizing xs with
  | nil => cases h; exact k
  | cons d0 ds ih => cases h with
    | cons a b => exact .cons a (ih b)
theorem RpAll.take {xs : List V} {ds : List D} (h : RpAll K U H xs ds) (n : Nat) : RpAll K U H (xs.take n) (ds.take n) := by
  induction ds generalizing xs n with
  | nil => cases h; simp; exact .nil
  | cons d0 ds ih => cases h with
    | cons a b => cases n with
      | zero => exact .nil
      | succ n => exact .cons a (ih b n)
theorem RpAll.drop {xs : List V} {ds : List D} (h : RpAll K U H xs ds) (n : Nat) : RpAll K U H (xs.drop n) (ds.drop n) := by
  induction ds generalizing xs n with
  | nil => cases h; simp; exact .nil
  | cons d0 ds ih => cases h with
    | cons a b => cases n with
      | zero => exact .cons a b
      | succ n => exact ih b n
theorem RpAll.set {xs : List V} {ds : List D} (h : RpAll K U H xs ds) {v : V} {d : D} (r : Rp K U H v d) (n : Nat) : RpAll K U H (xs.set n v) (ds.set n d) := by
  induction ds generalizing xs n with
  | nil => cases h; exact .nil
  | cons d0 ds ih => cases h with
    | cons a b => cases n with
      | zero => exact .cons r b
      | succ n => exact .cons a (ih b n)
theorem RpAll.eraseIdx {xs : List V} {ds : List D} (h : RpAll K U H xs ds) (n : Nat) : RpAll K U H (xs.eraseIdx n) (ds.eraseIdx n) := by
  induction ds generalizing xs n with
  | nil => cases h; exact .nil
  | cons d0 ds ih => cases h with
    | cons a b => cases n with
      | zero => exact b
      | succ n => exact .cons a (ih b n)
theorem RpAll.ints {xs : List V} {ns : List Int} (h : RpAll K U H xs (ns.map .int)) : xs = ns.map V.int := by
  induction ns generalizing xs with
  | nil => cases h; rfl
  | cons n ns ih => cases h with
    | cons a b =>
      cases a
      rw [ih b]
      rfl
theorem RpAll.of_ints : ∀ (ns : List Int), RpAll K U H (ns.map V.int) (ns.map .int)
  | [] => .nil
  | n :: ns => .cons (.int n) (RpAll.of_ints ns)
theorem RpAll.bools {xs : List V} {ns : List Bool} (h : RpAll K U H xs (ns.map .bool)) : xs = ns.map V.bl := by
  induction ns generalizing xs with
  | nil => cases h; rfl
  | cons n ns ih => cases h with
    | cons a b =>
      cases a
      rw [ih b]
      rfl
theorem RpAll.strs {xs : List V} {ns : List Str} (h : RpAll K U H xs (ns.map .str)) : xs = ns.map V.str := by
  induction ns generalizing xs with
  | nil => cases h; rfl
  | cons n ns ih => cases h with
    | cons a b =>
      cases a
      rw [ih b]
      rfl
theorem RpAll.of_strs : ∀ (ns : List Str), RpAll K U H (ns.map V.str) (ns.map .str)
  | [] => .nil
  | n :: ns => .cons (.str n) (RpAll.of_strs ns)
end

/-! ### the state: objects that change, names -/
inductive MO where
  | lst (ds : List D)
  | dK (kvs : List (Key × D))
  | dT (kvs : List (List Key × D))
  | ins (C dx : Addr) (fs : List (Str × D))
  | abs (φ : List V → Prop)
abbrev M := List (Addr × MO)
inductive RpKs {κ : Type} (K : PySem.W.Frag) (U : Addr → Prop) (H : Hp) : List (κ × V) → List (κ × D) → Prop
  | nil : RpKs K U H [] []
  | cons {k : κ} {v : V} {vs : List (κ × V)} {d : D} {ds : List (κ × D)} : Rp K U H v d → RpKs K U H vs ds → RpKs K U H ((k, v) :: vs) ((k, d) :: ds)
theorem RpKs.mono {κ : Type} {K : PySem.W.Frag} {U : Addr → Prop} {H H' : Hp} (ok : UOk U H) (e : ExU U H H') : ∀ {v : List (κ × V)} {d : List (κ × D)}, RpKs K U H v d → RpKs K U H' v d
  | _, _, .nil => .nil
  | _, _, .cons h r => .cons (Rp.mono ok e h) (RpKs.mono ok e r)
theorem RpKs.weak {κ : Type} {K : PySem.W.Frag} {U U' : Addr → Prop} {H : Hp} (e : ∀ a, U' a → U a) : ∀ {v : List (κ × V)} {d : List (κ × D)}, RpKs K U H v d → RpKs K U' H v d
  | _, _, .nil => .nil
  | _, _, .cons h r => .cons (Rp.weak e h) (RpKs.weak e r)
theorem RpKs.grow {κ : Type} {K : PySem.W.Frag} {U : Addr → Prop} {H : Hp} {l : Addr} (hl : H l = none) : ∀ {v : List (κ × V)} {d : List (κ × D)}, RpKs K U H v d → RpKs K (more U l) H v d
  | _, _, .nil => .nil
  | _, _, .cons h r => .cons (Rp.grow hl h) (RpKs.grow hl r)
def MAt (K : PySem.W.Frag) (U : Addr → Prop) (H : Hp) (a : Addr) : MO → Prop
  | .lst ds => ∃ xs, H a = some (.lst xs) ∧ RpAll K U H xs ds
  | .dK kvs => ∃ xs, H a = some (.dK xs) ∧ RpKs K U H xs kvs
  | .dT kvs => ∃ xs, H a = some (.dT xs) ∧ RpKs K U H xs kvs
  | .ins C dx fs => ∃ xs, H a = some (.ins C dx xs) ∧ RpKs K U H xs fs
  | .abs φ => ∃ xs, H a = some (.lst xs) ∧ φ xs
theorem MAt.mono {K : PySem.W.Frag} {U : Addr → Prop} {H H' : Hp} {a : Addr} {o : MO} (ok : UOk U H) (e : ExU U H H') (same : H' a = H a) (h : MAt K U H a o) : MAt K U H' a o := by
  cases o with
  | lst ds => obtain ⟨xs, h1, h2⟩ := h; exact ⟨xs, same.trans h1, h2.mono ok e⟩
  | dK ds => obtain ⟨xs, h1, h2⟩ := h; exact ⟨xs, same.trans h1, h2.mono ok e⟩
  | dT ds => obtain ⟨xs, h1, h2⟩ := h; exact ⟨xs, same.trans h1, h2.mono ok e⟩
  | ins C dx ds => obtain ⟨xs, h1, h2⟩ := h; exact ⟨xs, same.trans h1, h2.mono ok e⟩
  | abs φ => obtain ⟨xs, h1, h2⟩ := h; exact ⟨xs, same.trans h1, h2⟩
theorem MAt.weak {K : PySem.W.Frag} {U U' : Addr → Prop} {H : Hp} {a : Addr} {o : MO} (e : ∀ a, U' a → U a) (h : MAt K U H a o) : MAt K U' H a o := by
  cases o with
  | lst ds => obtain ⟨xs, h1, h2⟩ := h; exact ⟨xs, h1, h2.weak e⟩
  | dK ds => obtain ⟨xs, h1, h2⟩ := h; exact ⟨xs, h1, h2.weak e⟩
  | dT ds => obtain ⟨xs, h1, h2⟩ := h; exact ⟨xs, h1, h2.weak e⟩
  | ins C dx ds => obtain ⟨xs, h1, h2⟩ := h; exact ⟨xs, h1, h2.weak e⟩
  | abs φ => exact h
theorem MAt.grow {K : PySem.W.Frag} {U : Addr → Prop} {H : Hp} {a l : Addr} {o : MO} (hl : H l = none) (h : MAt K U H a o) : MAt K (more U l) H a o := by
  cases o with
  | lst ds => obtain ⟨xs, h1, h2⟩ := h; exact ⟨xs, h1, h2.grow hl⟩
  | dK ds => obtain ⟨xs, h1, h2⟩ := h; exact ⟨xs, h1, h2.grow hl⟩
  | dT ds => obtain ⟨xs, h1, h2⟩ := h; exact ⟨xs, h1, h2.grow hl⟩
  | ins C dx ds => obtain ⟨xs, h1, h2⟩ := h; exact ⟨xs, h1, h2.grow hl⟩
  | abs φ => exact h

/-- names: what is known of them -/
inductive Env' (K : PySem.W.Frag) (U : Addr → Prop) (H : Hp) : L2.St → List (Option D) → Prop
  | nil : Env' K U H [] []
  | some {v : V} {d : D} {σ : L2.St} {ρ : List (Option D)} : Rp K U H v d → Env' K U H σ ρ → Env' K U H (some v :: σ) (some d :: ρ)
  | none {o : Option V} {σ : L2.St} {ρ : List (Option D)} : Env' K U H σ ρ → Env' K U H (o :: σ) (none :: ρ)
section
variable {K : PySem.W.Frag} {U U' : Addr → Prop} {H H' : Hp}
theorem Env'.mono (ok : UOk U H) (e : ExU U H H') : ∀ {σ : L2.St} {ρ : List (Option D)}, Env' K U H σ ρ → Env' K U H' σ ρ
  | _, _, .nil => .nil
  | _, _, .some h r => .some (Rp.mono ok e h) (Env'.mono ok e r)
  | _, _, .none r => .none (Env'.mono ok e r)
theorem Env'.weak (e : ∀ a, U' a → U a) : ∀ {σ : L2.St} {ρ : List (Option D)}, Env' K U H σ ρ → Env' K U' H σ ρ
  | _, _, .nil => .nil
  | _, _, .some h r => .some (Rp.weak e h) (Env'.weak e r)
  | _, _, .none r => .none (Env'.weak e r)
theorem Env'.grow {l : Addr} (hl : H l = Option.none) : ∀ {σ : L2.St} {ρ : List (Option D)}, Env' K U H σ ρ → Env' K (more U l) H σ ρ
  | _, _, .nil => .nil
  | _, _, .some h r => .some (Rp.grow hl h) (Env'.grow hl r)
  | _, _, .none r => .none (Env'.grow hl r)
theorem Env'.get {d : D} {σ : L2.St} {ρ : List (Option D)} (h : Env' K U H σ ρ) : ∀ {i : Nat}, ρ[i]? = Option.some (Option.some d) → ∃ v, σ[i]? = Option.some (Option.some v) ∧ Rp K U H v d := by
  induction h with
  | nil => intro i e; simp at e
  | some h r ih =>
    intro i e
    cases i with
    | zero =>
      rename_i d' _ _
      have : d' = d := by simpa using e
      subst this
      exact ⟨_, rfl, h⟩
    | succ i => exact ih (by simpa using e)
  | none r ih =>
    intro i e
    cases i with
    | zero => simp at e
    | succ i => exact ih (by simpa using e)
theorem Env'.set {v : V} {d : D} (q : Rp K U H v d) : ∀ {σ : L2.St} {ρ : List (Option D)} (i : Nat), Env' K U H σ ρ → Env' K U H (σ.set i (Option.some v)) (ρ.set i (Option.some d))
  | _, _, _, .nil => .nil
  | _, _, 0, .some h r => .some q r
  | _, _, i + 1, .some h r => .some h (Env'.set q i r)
  | _, _, 0, .none r => .some q r
  | _, _, i + 1, .none r => .none (Env'.set q i r)
theorem Env'.wipe1 : ∀ {σ : L2.St} {ρ : List (Option D)} (i : Nat), Env' K U H σ ρ → Env' K U H (σ.set i Option.none) (ρ.set i Option.none)
  | _, _, _, .nil => .nil
  | _, _, 0, .some h r => .none r
  | _, _, i + 1, .some h r => .some h (Env'.wipe1 i r)
  | _, _, 0, .none r => .none r
  | _, _, i + 1, .none r => .none (Env'.wipe1 i r)
theorem Env'.len : ∀ {σ : L2.St} {ρ : List (Option D)}, Env' K U H σ ρ → σ.length = ρ.length
  | _, _, .nil => rfl
  | _, _, .some h r => by rw [List.length_cons, List.length_cons, Env'.len r]
  | _, _, .none r => by rw [List.length_cons, List.length_cons, Env'.len r]
end
/-- known less -/
inductive Less : List (Option D) → List (Option D) → Prop
  | nil : Less [] []
  | same {d : Option D} {ρ τ : List (Option D)} : Less ρ τ → Less (d :: ρ) (d :: τ)
  | drop {d : Option D} {ρ τ : List (Option D)} : Less ρ τ → Less (d :: ρ) (none :: τ)
theorem Env'.less {K : PySem.W.Frag} {U : Addr → Prop} {H : Hp} : ∀ {σ : L2.St} {ρ τ : List (Option D)}, Less ρ τ → Env' K U H σ ρ → Env' K U H σ τ
  | _, _, _, .nil, h => h
  | _, _, _, .same l, .some h r => .some h (Env'.less l r)
  | _, _, _, .same l, .none r => .none (Env'.less l r)
  | _, _, _, .drop l, .some h r => .none (Env'.less l r)
  | _, _, _, .drop l, .none r => .none (Env'.less l r)
theorem Less.refl : ∀ (ρ : List (Option D)), Less ρ ρ
  | [] => .nil
  | _ :: ρ => .same (Less.refl ρ)

/-- where a def runs: S: the streams, of which Sok is known; F: what the def may change of what stood before; H0, U0: its entry -/
structure Wd where
  K : PySem.W.Frag
  S : Addr → Prop
  Sok : List V → Prop
  F : Addr → Prop
  H0 : Hp
  U0 : Addr → Prop

structure StU (W : Wd) (U : Addr → Prop) (m : M) (ρ : List (Option D)) (σ : L2.St) (H : Hp) : Prop where
  uok : UOk U H
  ut : ∀ a, U a → H a ≠ none
  fu : ∀ a, W.F a → U a
  str : ∀ a, W.S a → ∃ xs, H a = some (.lst xs) ∧ W.Sok xs
  u0 : ∀ a, W.U0 a → U a
  un : ∀ a, U a → W.U0 a ∨ W.H0 a = none
  e0 : ∀ a o, W.H0 a = some o → ¬ W.F a → H a = some o
  sf : ∀ a, W.S a → W.F a
  mem : ∀ p ∈ m, U p.1 ∧ ¬ W.S p.1 ∧ (W.H0 p.1 = none ∨ W.F p.1) ∧ MAt W.K U H p.1 p.2
  nd : (m.map (·.1)).Nodup
  env : Env' W.K U H σ ρ
section
variable {W : Wd} {U : Addr → Prop} {m m' : M} {ρ τ : List (Option D)} {σ : L2.St} {H H' : Hp}
/-- a new object -/
theorem StU.new {p : Addr} {o : HO} (I : StU W U m ρ σ H) (hp : H p = none) : StU W U m ρ σ (upd H p o) := by
  have ne : ∀ {a u}, H a = some u → a ≠ p := fun e z => by rw [z, hp] at e; cases e
  have ex : ExU U H (upd H p o) := ExU.new hp
  have neU : ∀ {a}, U a → a ≠ p := fun h z => I.ut _ h (by rw [z]; exact hp)
  refine ⟨fun a u h e => ?_, fun a h => ?_, I.fu, fun a h => ?_, I.u0, I.un, fun a u h n => ?_, I.sf, fun q h => ?_, I.nd, I.env.mono I.uok ex⟩
  · rw [upd_ne (neU h)] at e
    exact I.uok a u h e
  · rw [upd_ne (neU h)]
    exact I.ut a h
  · obtain ⟨xs, e, k⟩ := I.str a h
    exact ⟨xs, by rw [upd_ne (ne e)]; exact e, k⟩
  · have e := I.e0 a u h n
    rw [upd_ne (ne e)]
    exact e
  · obtain ⟨a, b, c, d⟩ := I.mem q h
    exact ⟨a, b, c, d.mono I.uok ex (by rw [upd_ne (neU a)])⟩
/-- an object of ours is written -/
theorem StU.put {l : Addr} {mo mo' : MO} {o : HO} (I : StU W U ((l, mo) :: m) ρ σ H) (ho : Mut (some o)) (at' : MAt W.K U (upd H l o) l mo') : StU W U ((l, mo') :: m) ρ σ (upd H l o) := by
  obtain ⟨hu, hs, hf, _⟩ := I.mem (l, mo) List.mem_cons_self
  have hu : U l := hu
  have hs : ¬ W.S l := hs
  have hf : W.H0 l = none ∨ W.F l := hf
  have ex : ExU U H (upd H l o) := ExU.put hu
  have nd := I.nd
  rw [List.map_cons, List.nodup_cons] at nd
  refine ⟨fun a u h e => ?_, fun a h => ?_, I.fu, fun a h => ?_, I.u0, I.un, fun a u h n => ?_, I.sf, fun q h => ?_, ?_, I.env.mono I.uok ex⟩
  · by_cases z : a = l
    · subst z; rw [upd_same] at e; cases e; exact ho
    · rw [upd_ne z] at e; exact I.uok a u h e
  · by_cases z : a = l
    · subst z; rw [upd_same]; exact fun z => nomatch z
    · rw [upd_ne z]; exact I.ut a h
  · rw [upd_ne (fun z => hs (by rw [← z]; exact h))]
    exact I.str a h
  · rw [upd_ne (fun z => ?_)]
    · exact I.e0 a u h n
    · subst z
      rcases hf with e | e
      · rw [e] at h; cases h
      · exact n e
  · rcases List.mem_cons.mp h with rfl | h
    · exact ⟨hu, hs, hf, at'⟩
    · obtain ⟨a, b, c, d⟩ := I.mem q (List.mem_cons_of_mem _ h)
      have nq : q.1 ≠ l := fun z => nd.1 (by
        show l ∈ m.map (·.1)
        exact List.mem_map.mpr ⟨q, h, z⟩)
      exact ⟨a, b, c, d.mono I.uok ex (by rw [upd_ne nq])⟩
  · rw [List.map_cons, List.nodup_cons]; exact nd
theorem StU.less (I : StU W U m ρ σ H) (h : Less ρ τ) : StU W U m τ σ H := ⟨I.uok, I.ut, I.fu, I.str, I.u0, I.un, I.e0, I.sf, I.mem, I.nd, I.env.less h⟩
theorem StU.perm (I : StU W U m ρ σ H) (h : m.Perm m') : StU W U m' ρ σ H :=
  ⟨I.uok, I.ut, I.fu, I.str, I.u0, I.un, I.e0, I.sf, fun p hp => I.mem p (h.mem_iff.mpr hp), (h.map _).nodup_iff.mp I.nd, I.env⟩
theorem StU.forget {p : Addr × MO} (I : StU W U (p :: m) ρ σ H) : StU W U m ρ σ H :=
  ⟨I.uok, I.ut, I.fu, I.str, I.u0, I.un, I.e0, I.sf, fun q hq => I.mem q (List.mem_cons_of_mem _ hq), by have := I.nd; rw [List.map_cons, List.nodup_cons] at this; exact this.2, I.env⟩
theorem StU.sub (I : StU W U m ρ σ H) (h : m'.Sublist m) : StU W U m' ρ σ H :=
  ⟨I.uok, I.ut, I.fu, I.str, I.u0, I.un, I.e0, I.sf, fun q hq => I.mem q (h.subset hq), (h.map (·.1)).nodup I.nd, I.env⟩
theorem StU.set {v : V} {d : D} (I : StU W U m ρ σ H) (r : Rp W.K U H v d) (i : Nat) : StU W U m (ρ.set i (some d)) (σ.set i (some v)) H :=
  ⟨I.uok, I.ut, I.fu, I.str, I.u0, I.un, I.e0, I.sf, I.mem, I.nd, I.env.set r i⟩
theorem StU.wipe1 (I : StU W U m ρ σ H) (i : Nat) : StU W U m (ρ.set i none) (σ.set i none) H :=
  ⟨I.uok, I.ut, I.fu, I.str, I.u0, I.un, I.e0, I.sf, I.mem, I.nd, I.env.wipe1 i⟩
theorem StU.envs {τ : List (Option D)} {σ' : L2.St} (I : StU W U m ρ σ H) (h : Env' W.K U H σ' τ) : StU W U m τ σ' H :=
  ⟨I.uok, I.ut, I.fu, I.str, I.u0, I.un, I.e0, I.sf, I.mem, I.nd, h⟩
/-- a new object becomes one of ours -/
theorem StU.own {l : Addr} {mo : MO} {o : HO} (I : StU W U m ρ σ H) (hl : H l = none) (ho : Mut (some o)) (at' : MAt W.K (more U l) (upd H l o) l mo) : StU W (more U l) ((l, mo) :: m) ρ σ (upd H l o) := by
  have ne : ∀ {a u}, H a = some u → a ≠ l := fun e z => by rw [z, hl] at e; cases e
  have hu : ¬ U l := fun z => I.ut l z hl
  have neU : ∀ {a}, U a → a ≠ l := fun h z => I.ut _ h (by rw [z]; exact hl)
  have hF : ¬ W.F l := fun z => hu (I.fu l z)
  have h0 : W.H0 l = none := by
    cases e : W.H0 l with
    | none => rfl
    | some u =>
      have := I.e0 l u e hF
      rw [hl] at this; cases this
  have ex : ExU (more U l) H (upd H l o) := ExU.put (.inr rfl)
  have ok : UOk (more U l) H := fun a u h e => by
    rcases h with h | h
    · exact I.uok a u h e
    · subst h; rw [hl] at e; cases e
  refine ⟨fun a u h e => ?_, fun a h => ?_, fun a h => .inl (I.fu a h), fun a h => ?_, fun a h => .inl (I.u0 a h), fun a h => ?_, fun a u h n => ?_, I.sf, fun q h => ?_, ?_, (I.env.grow hl).mono ok ex⟩
  · by_cases z : a = l
    · subst z; rw [upd_same] at e; cases e; exact ho
    · rw [upd_ne z] at e
      rcases h with h | h
      · exact I.uok a u h e
      · exact absurd h z
  · by_cases z : a = l
    · subst z; rw [upd_same]; exact fun z => nomatch z
    · rw [upd_ne z]
      rcases h with h | h
      · exact I.ut a h
      · exact absurd h z
  · obtain ⟨xs, e, k⟩ := I.str a h
    exact ⟨xs, by rw [upd_ne (ne e)]; exact e, k⟩
  · rcases h with h | h
    · exact I.un a h
    · subst h; exact .inr h0
  · have e := I.e0 a u h n
    rw [upd_ne (ne e)]
    exact e
  · rcases List.mem_cons.mp h with rfl | h
    · exact ⟨.inr rfl, fun z => hF (I.sf _ z), .inl h0, at'⟩
    · obtain ⟨a, b, c, d⟩ := I.mem q h
      exact ⟨.inl a, b, c, (d.grow hl).mono ok ex (by rw [upd_ne (neU a)])⟩
  · rw [List.map_cons, List.nodup_cons]
    refine ⟨fun h => ?_, I.nd⟩
    obtain ⟨q, hq, e⟩ := List.mem_map.mp h
    have z : U q.1 := (I.mem q hq).1
    have e : q.1 = l := e
    rw [e] at z
    exact hu z
end

/-! ### later -/
structure Fut (U : Addr → Prop) (H : Hp) (U' : Addr → Prop) (H' : Hp) : Prop where
  ex : ExU U H H'
  up : ∀ a, U a → U' a
  nw : ∀ a, U' a → U a ∨ H a = none
theorem Fut.of {U : Addr → Prop} {H H' : Hp} (e : ExU U H H') : Fut U H U H' := ⟨e, fun _ h => h, fun _ h => .inl h⟩
theorem Fut.refl {U : Addr → Prop} {H : Hp} : Fut U H U H := Fut.of ExU.refl
theorem ExU.free {U : Addr → Prop} {H H' : Hp} {a : Addr} (e : ExU U H H') (h : H' a = none) : H a = none ∨ U a := by
  cases q : H a with
  | none => exact .inl rfl
  | some o =>
    by_cases u : U a
    · exact .inr u
    · have := e a o q u
      rw [h] at this; cases this
theorem Fut.trans {U U1 U2 : Addr → Prop} {H H1 H2 : Hp} (a : Fut U H U1 H1) (b : Fut U1 H1 U2 H2) : Fut U H U2 H2 where
  ex := fun x o h n => b.ex x o (a.ex x o h n) fun z => (a.nw x z).elim n fun q => by rw [h] at q; cases q
  up := fun x h => b.up x (a.up x h)
  nw := fun x h => (b.nw x h).elim (a.nw x) fun q => (a.ex.free q).symm
theorem Fut.own {U : Addr → Prop} {H : Hp} {l : Addr} {o : HO} (hl : H l = none) : Fut U H (more U l) (upd H l o) :=
  ⟨ExU.new hl, fun _ h => .inl h, fun a h => h.elim .inl fun e => .inr (by rw [e]; exact hl)⟩
mutual
theorem Rp.fut {K : PySem.W.Frag} {U U' : Addr → Prop} {H H' : Hp} (ok : UOk U H) (f : Fut U H U' H') : ∀ {v : V} {d : PyData}, Rp K U H v d → Rp K U' H' v d
  | _, _, .non => .non
  | _, _, .bl b => .bl b
  | _, _, .int i => .int i
  | _, _, .str x => .str x
  | _, _, .lst n h r => .lst (fun z => (f.nw _ z).elim n fun q => by rw [h] at q; cases q) (f.ex _ _ h n) (RpAll.fut ok f r)
  | _, _, .scr h => .scr (ex_fz ok f.ex h)
  | _, _, .ntup h r => .ntup (ex_fzt ok f.ex h) (RpAll.fut ok f r)
  | _, _, .tup h r => .tup (ex_tup ok f.ex h) (RpAll.fut ok f r)
  | _, _, .ob a => .ob a
  | _, _, .ty n => .ty n
theorem RpAll.fut {K : PySem.W.Frag} {U U' : Addr → Prop} {H H' : Hp} (ok : UOk U H) (f : Fut U H U' H') : ∀ {v : List V} {d : List PyData}, RpAll K U H v d → RpAll K U' H' v d
  | _, _, .nil => .nil
  | _, _, .cons h r => .cons (Rp.fut ok f h) (RpAll.fut ok f r)
end

/-- the same objects, known less -/
inductive MLe : M → M → Prop
  | nil : MLe [] []
  | cons {a : Addr} {mo mo' : MO} {m m' : M} : (∀ K U H, MAt K U H a mo → MAt K U H a mo') → MLe m m' → MLe ((a, mo) :: m) ((a, mo') :: m')
theorem MLe.refl : ∀ m : M, MLe m m
  | [] => .nil
  | (a, mo) :: m => .cons (fun _ _ _ h => h) (MLe.refl m)
theorem MLe.keys {m m' : M} (h : MLe m m') : m'.map (·.1) = m.map (·.1) := by
  induction h with
  | nil => rfl
  | cons _ _ ih => rw [List.map_cons, List.map_cons, ih]
theorem MLe.mem {m m' : M} (h : MLe m m') : ∀ p' ∈ m', ∃ p ∈ m, p.1 = p'.1 ∧ ∀ K U H, MAt K U H p'.1 p.2 → MAt K U H p'.1 p'.2 := by
  induction h with
  | nil => intro p hp; cases hp
  | cons f _ ih =>
    intro p hp
    rcases List.mem_cons.mp hp with rfl | hp
    · exact ⟨_, List.mem_cons_self, rfl, f⟩
    · obtain ⟨q, hq, e, k⟩ := ih p hp
      exact ⟨q, List.mem_cons_of_mem _ hq, e, k⟩
theorem StU.mle {W : Wd} {U : Addr → Prop} {m m' : M} {ρ : List (Option D)} {σ : L2.St} {H : Hp} (I : StU W U m ρ σ H) (h : MLe m m') : StU W U m' ρ σ H :=
  ⟨I.uok, I.ut, I.fu, I.str, I.u0, I.un, I.e0, I.sf, fun p hp => by
    obtain ⟨q, hq, e, k⟩ := h.mem p hp
    obtain ⟨a, b, c, d⟩ := I.mem q hq
    rw [e] at a b c d
    exact ⟨a, b, c, k _ _ _ d⟩, by rw [h.keys]; exact I.nd, I.env⟩
/-! ### what an evaluation leaves -/
structure Go (W : Wd) (m : M) (H : Hp) (m' : M) (H' : Hp) : Prop where
  ex : ∀ a o, H a = some o → ¬ W.S a → a ∉ m.map (·.1) → H' a = some o
  ks : m'.map (·.1) = m.map (·.1)
section
variable {W : Wd} {U : Addr → Prop} {m m1 m2 : M} {ρ : List (Option D)} {σ : L2.St} {H H1 H2 : Hp}
theorem Go.refl : Go W m H m H := ⟨fun _ _ h _ _ => h, rfl⟩
theorem Go.trans (a : Go W m H m1 H1) (b : Go W m1 H1 m2 H2) : Go W m H m2 H2 := ⟨fun x o h n k => b.ex x o (a.ex x o h n k) n (by rw [a.ks]; exact k), b.ks.trans a.ks⟩
theorem Go.new {p : Addr} {o : HO} (h : H p = none) : Go W m H m (upd H p o) := ⟨fun a u e _ _ => by
  rw [upd_ne (ne_of_none e h)]
  exact e, rfl⟩
theorem Go.exU (g : Go W m H m1 H1) (I : StU W U m ρ σ H) : ExU U H H1 := fun a o h n => g.ex a o h (fun z => n (I.fu a (I.sf a z))) fun z => by
  obtain ⟨q, hq, e⟩ := List.mem_map.mp z
  have k : U q.1 := (I.mem q hq).1
  have e : q.1 = a := e
  rw [e] at k
  exact n k
theorem Go.fresh (g : Go W m H m1 H1) (I : StU W U m ρ σ H) (J : StU W U m1 ρ σ H1) {p : Addr} (hp : H1 p = none) : H p = none := by
  rcases (g.exU I).free hp with z | z
  · exact z
  · exact absurd hp (J.ut p z)
theorem _root_.DL.Rp.go {K : PySem.W.Frag} {v : V} {d : D} (r : Rp W.K U H v d) (I : StU W U m ρ σ H) (g : Go W m H m1 H1) : Rp W.K U H1 v d := r.mono I.uok (g.exU I)
theorem _root_.DL.RpAll.go {K : PySem.W.Frag} {v : List V} {d : List D} (r : RpAll W.K U H v d) (I : StU W U m ρ σ H) (g : Go W m H m1 H1) : RpAll W.K U H1 v d := r.mono I.uok (g.exU I)
/-- back to fewer that may change -/
theorem StU.shrink {l : Addr} {mo : MO} (I : StU W U m ρ σ H) (J : StU W (more U l) ((l, mo) :: m1) ρ σ H1) : StU W U m1 ρ σ H1 := by
  have nd := J.nd
  rw [List.map_cons, List.nodup_cons] at nd
  refine ⟨fun a o h e => J.uok a o (.inl h) e, fun a h => J.ut a (.inl h), I.fu, J.str, I.u0, I.un, J.e0, J.sf, fun q h => ?_, nd.2, J.env.weak fun a h => .inl h⟩
  obtain ⟨a, b, c, d⟩ := J.mem q (List.mem_cons_of_mem _ h)
  refine ⟨?_, b, c, d.weak fun a h => .inl h⟩
  rcases a with a | a
  · exact a
  · exact absurd (List.mem_map.mpr ⟨q, h, a⟩) nd.1
end

/-! ### the judgements: what is wanted behind, over data -/
abbrev PD := D → M → Prop
abbrev Names := List (Option D)
/-- what follows an expression's value -/
abbrev Kt (W : Wd) (U : Addr → Prop) (m : M) (ρ : Names) (σ : L2.St) (H : Hp) (P : PD) (Q : VK) : Prop :=
  ∀ v d m' H2, Go W m H m' H2 → StU W U m' ρ σ H2 → Rp W.K U H2 v d → P d m' → Q v H2
def Ev (W : Wd) (te : TE) (m : M) (ρ : Names) (P : PD) : Prop :=
  ∀ U σ H, StU W U m ρ σ H → ∀ Q : VK, Kt W U m ρ σ H P Q → te σ H Q
/-- .. a new list -/
def EvL (W : Wd) (te : TE) (m : M) (ρ : Names) (P : List D → M → Prop) : Prop :=
  ∀ U σ H, StU W U m ρ σ H → ∀ Q : VK, (∀ p ds m' H2, H p = none → Go W m H m' H2 → StU W (more U p) ((p, .lst ds) :: m') ρ σ H2 → P ds m' → Q (.ref p) H2) → te σ H Q
def EvT (W : Wd) (tt : TT) (m : M) (ρ : Names) (P : Bool → M → Prop) : Prop :=
  ∀ U σ H, StU W U m ρ σ H → ∀ Q : Bool → Hp → Prop, (∀ b m' H2, Go W m H m' H2 → StU W U m' ρ σ H2 → P b m' → Q b H2) → tt σ H Q
def EvA (W : Wd) (ta : TA) (m : M) (ρ : Names) (P : List D → M → Prop) : Prop :=
  ∀ U σ H, StU W U m ρ σ H → ∀ Q : List V → Hp → Prop, (∀ vs ds m' H2, Go W m H m' H2 → StU W U m' ρ σ H2 → RpAll W.K U H2 vs ds → P ds m' → Q vs H2) → ta σ H Q
def EvO (W : Wd) (to : TO) (m : M) (ρ : Names) (P : Option Int → M → Prop) : Prop :=
  ∀ U σ H, StU W U m ρ σ H → ∀ Q : Option Int → Hp → Prop, (∀ b m' H2, Go W m H m' H2 → StU W U m' ρ σ H2 → P b m' → Q b H2) → to σ H Q
def OpD (W : Wd) (r : R2) (d1 d2 : D) (m : M) (P : PD) : Prop :=
  ∀ U ρ σ H v w, StU W U m ρ σ H → Rp W.K U H v d1 → Rp W.K U H w d2 → ∀ Q : VK, Kt W U m ρ σ H P Q → r v w H Q
def UnD (W : Wd) (r : V → Hp → VK → Prop) (d1 : D) (m : M) (P : PD) : Prop :=
  ∀ U ρ σ H v, StU W U m ρ σ H → Rp W.K U H v d1 → ∀ Q : VK, Kt W U m ρ σ H P Q → r v H Q
def CallD (W : Wd) (r : List V → Hp → VK → Prop) (ds : List D) (m : M) (P : PD) : Prop :=
  ∀ U ρ σ H vs, StU W U m ρ σ H → RpAll W.K U H vs ds → ∀ Q : VK, Kt W U m ρ σ H P Q → r vs H Q
def CallDL (W : Wd) (r : List V → Hp → VK → Prop) (ds : List D) (m : M) (P : List D → M → Prop) : Prop :=
  ∀ U ρ σ H vs, StU W U m ρ σ H → RpAll W.K U H vs ds → ∀ Q : VK, (∀ p ds m' H2, H p = none → Go W m H m' H2 → StU W (more U p) ((p, .lst ds) :: m') ρ σ H2 → P ds m' → Q (.ref p) H2) → r vs H Q
def MtD (W : Wd) (r : V → List V → Hp → VK → Prop) (d0 : D) (ds : List D) (m : M) (P : PD) : Prop :=
  ∀ U ρ σ H v vs, StU W U m ρ σ H → Rp W.K U H v d0 → RpAll W.K U H vs ds → ∀ Q : VK, Kt W U m ρ σ H P Q → r v vs H Q
structure AE where
  nx : M → Names → Prop
  rt : PD
  bk : M → Names → Prop := fun _ _ => False
  ct : M → Names → Prop := fun _ _ => False
structure Ks (W : Wd) (U : Addr → Prop) (H : Hp) (D : AE) (D0 : Ends) : Prop where
  nx : ∀ U' m' ρ' σ' H', Fut U H U' H' → StU W U' m' ρ' σ' H' → D.nx m' ρ' → D0.nx σ' H'
  rt : ∀ U' m' ρ' σ' v d H', Fut U H U' H' → StU W U' m' ρ' σ' H' → Rp W.K U' H' v d → D.rt d m' → D0.rt v H'
  bk : ∀ U' m' ρ' σ' H', Fut U H U' H' → StU W U' m' ρ' σ' H' → D.bk m' ρ' → D0.bk σ' H'
  ct : ∀ U' m' ρ' σ' H', Fut U H U' H' → StU W U' m' ρ' σ' H' → D.ct m' ρ' → D0.ct σ' H'
def Sv (W : Wd) (ts : TS) (m : M) (ρ : Names) (D : AE) : Prop :=
  ∀ U σ H, StU W U m ρ σ H → ∀ D0 : Ends, Ks W U H D D0 → ts D0 σ H
def Gv (W : Wd) (g : TG) (d : D) (m : M) (ρ : Names) (P : M → Names → Prop) : Prop :=
  ∀ U σ H v, StU W U m ρ σ H → Rp W.K U H v d → ∀ Q : L2.St → Hp → Prop, (∀ ρ' σ', StU W U m ρ' σ' H → P m ρ' → Q σ' H) → g v σ H Q
def Gvs (W : Wd) (g : TGs) (ds : List D) (m : M) (ρ : Names) (P : M → Names → Prop) : Prop :=
  ∀ U σ H vs, StU W U m ρ σ H → RpAll W.K U H vs ds → ∀ Q : L2.St → Hp → Prop, (∀ ρ' σ', StU W U m ρ' σ' H → P m ρ' → Q σ' H) → g vs σ H Q
theorem Ks.fut {W : Wd} {U U1 : Addr → Prop} {H H1 : Hp} {D : AE} {D0 : Ends} (k : Ks W U H D D0) (f : Fut U H U1 H1) : Ks W U1 H1 D D0 :=
  ⟨fun U' m' ρ' σ' H' g => k.nx U' m' ρ' σ' H' (f.trans g), fun U' m' ρ' σ' v d H' g => k.rt U' m' ρ' σ' v d H' (f.trans g), fun U' m' ρ' σ' H' g => k.bk U' m' ρ' σ' H' (f.trans g), fun U' m' ρ' σ' H' g => k.ct U' m' ρ' σ' H' (f.trans g)⟩
/-- a state known less -/
def Wk (I : M → Names → Prop) (m : M) (ρ : Names) : Prop := ∃ m1 m' ρ', m1.Sublist m ∧ MLe m1 m' ∧ Less ρ ρ' ∧ I m' ρ'
theorem Wk.of {I : M → Names → Prop} {m : M} {ρ : Names} (h : I m ρ) : Wk I m ρ := ⟨m, m, ρ, .refl _, MLe.refl _, Less.refl _, h⟩

section
variable {W : Wd} {m : M} {ρ : Names} {P : PD} {ta tb te tc : TE} {t u : TT} {d : D} {D0 : AE}
/-! ### expressions -/
theorem ev_var {i : Nat} (h : ρ[i]? = some (some d)) (q : P d m) : Ev W (tVar i) m ρ P := fun U σ H I Q k => by
  obtain ⟨v, e, r⟩ := I.env.get h
  exact ⟨v, e, k v d m H Go.refl I r q⟩
theorem ev_int {i : Int} (q : P (.int i) m) : Ev W (tC (.int i)) m ρ P := fun U σ H I Q k => k _ _ m H Go.refl I (.int i) q
theorem ev_bl {i : Bool} (q : P (.bool i) m) : Ev W (tC (.bl i)) m ρ P := fun U σ H I Q k => k _ _ m H Go.refl I (.bl i) q
theorem ev_str {i : Str} (q : P (.str i) m) : Ev W (tC (.str i)) m ρ P := fun U σ H I Q k => k _ _ m H Go.refl I (.str i) q
theorem ev_ty {n : String} (q : P (tyD n) m) : Ev W (tC (.ty n)) m ρ P := fun U σ H I Q k => k _ _ m H Go.refl I (.ty n) q
theorem ev_non (q : P .none m) : Ev W (tC .non) m ρ P := fun U σ H I Q k => k _ _ m H Go.refl I .non q
theorem ev_op {r : R2} (h : Ev W ta m ρ fun d1 m1 => Ev W tb m1 ρ fun d2 m2 => OpD W r d1 d2 m2 P) : Ev W (tOp r ta tb) m ρ P := fun U σ H I Q k =>
  h U σ H I _ fun x d1 m1 H1 e1 I1 r1 p1 => p1 U σ H1 I1 _ fun y d2 m2 H2 e2 I2 r2 p2 => p2 U ρ σ H2 x y I2 (r1.go (K := W.K) I1 e2) r2 Q fun z d m' H3 e3 I3 r3 p3 => k z d m' H3 ((e1.trans e2).trans e3) I3 r3 p3
theorem ev_un {r : V → Hp → VK → Prop} (h : Ev W ta m ρ fun d1 m1 => UnD W r d1 m1 P) : Ev W (tUn r ta) m ρ P := fun U σ H I Q k =>
  h U σ H I _ fun x d1 m1 H1 e1 I1 r1 p1 => p1 U ρ σ H1 x I1 r1 Q fun z d m' H3 e3 I3 r3 p3 => k z d m' H3 (e1.trans e3) I3 r3 p3
theorem ev_if (h : EvT W t m ρ fun b m1 => if b = true then Ev W ta m1 ρ P else Ev W tb m1 ρ P) : Ev W (tIf t ta tb) m ρ P := fun U σ H I Q k =>
  h U σ H I _ fun b m1 H1 e1 I1 p1 => by
    cases b with
    | true => exact p1 U σ H1 I1 Q fun z d m' H3 e3 I3 r3 p3 => k z d m' H3 (e1.trans e3) I3 r3 p3
    | false => exact p1 U σ H1 I1 Q fun z d m' H3 e3 I3 r3 p3 => k z d m' H3 (e1.trans e3) I3 r3 p3
theorem ev_andV (h : Ev W ta m ρ fun d1 m1 => ∃ b, d1 = .bool b ∧ if b = true then Ev W tb m1 ρ P else P (.bool false) m1) : Ev W (tAndV ta tb) m ρ P := fun U σ H I Q k =>
  h U σ H I _ fun x d1 m1 H1 e1 I1 r1 ⟨b, e, p1⟩ => by
    subst e
    cases r1
    cases b with
    | true => exact ⟨true, rfl, p1 U σ H1 I1 Q fun z d m' H3 e3 I3 r3 p3 => k z d m' H3 (e1.trans e3) I3 r3 p3⟩
    | false => exact ⟨false, rfl, k _ _ m1 H1 e1 I1 (.bl false) p1⟩
theorem ev_orV (h : Ev W ta m ρ fun d1 m1 => ∃ b, d1 = .bool b ∧ if b = true then P (.bool true) m1 else Ev W tb m1 ρ P) : Ev W (tOrV ta tb) m ρ P := fun U σ H I Q k =>
  h U σ H I _ fun x d1 m1 H1 e1 I1 r1 ⟨b, e, p1⟩ => by
    subst e
    cases r1
    cases b with
    | true => exact ⟨true, rfl, k _ _ m1 H1 e1 I1 (.bl true) p1⟩
    | false => exact ⟨false, rfl, p1 U σ H1 I1 Q fun z d m' H3 e3 I3 r3 p3 => k z d m' H3 (e1.trans e3) I3 r3 p3⟩
theorem ev_notV (h : Ev W ta m ρ fun d1 m1 => ∃ b, d1 = .bool b ∧ P (.bool (!b)) m1) : Ev W (tNotV ta) m ρ P := fun U σ H I Q k =>
  h U σ H I _ fun x d1 m1 H1 e1 I1 r1 ⟨b, e, p1⟩ => by
    subst e
    cases r1
    exact ⟨b, rfl, k _ _ m1 H1 e1 I1 (.bl _) p1⟩
theorem ev_chain {r r' : R2} (h : Ev W ta m ρ fun d1 m1 => Ev W tb m1 ρ fun d2 m2 => OpD W r d1 d2 m2 fun b m3 => ∃ c, b = .bool c ∧ if c = true then Ev W tc m3 ρ fun d3 m4 => OpD W r' d2 d3 m4 P else P (.bool false) m3) :
    Ev W (tChain r r' ta tb tc) m ρ P := fun U σ H I Q k =>
  h U σ H I _ fun x d1 m1 H1 e1 I1 r1 p1 => p1 U σ H1 I1 _ fun y d2 m2 H2 e2 I2 r2 p2 => p2 U ρ σ H2 x y I2 (r1.go (K := W.K) I1 e2) r2 _ fun z dz m3 H3 e3 I3 r3 ⟨c, ec, p3⟩ => by
    subst ec
    cases r3
    refine ⟨c, rfl, ?_⟩
    cases c with
    | true => exact p3 U σ H3 I3 _ fun w dw m4 H4 e4 I4 r4 p4 => p4 U ρ σ H4 y w I4 (r2.go (K := W.K) I2 (e3.trans e4)) r4 Q fun z d m' H5 e5 I5 r5 p5 => k z d m' H5 ((((e1.trans e2).trans e3).trans e4).trans e5) I5 r5 p5
    | false => exact k _ _ m3 H3 ((e1.trans e2).trans e3) I3 (.bl false) p3
theorem ev_ofL {P : PD} (h : EvL W te m ρ fun ds m' => P (.list ds) m') : Ev W te m ρ P := fun U σ H I Q k =>
  h U σ H I Q fun p ds m' H2 hp e J q => by
    obtain ⟨_, _, _, xs, h2, r⟩ := J.mem (p, .lst ds) List.mem_cons_self
    exact k _ _ m' H2 e (I.shrink J) (.lst (fun z => I.ut p z hp) h2 (r.weak fun a h => .inl h)) q
theorem nt_inv {K : PySem.W.Frag} {U : Addr → Prop} {H : Hp} {v : V} {ds : List D} (r : Rp K U H v (ntup ds)) : ∃ a xs, v = .ref a ∧ FzT H a xs ∧ RpAll K U H xs ds := by
  generalize hd : ntup ds = z at r
  cases r with
  | ntup h r =>
    rename_i ds'
    have e : ds = ds' := by simpa [ntup] using hd
    subst e
    exact ⟨_, _, rfl, h, r⟩
  | _ => simp [ob, scr, ntup, tyD] at hd
theorem nt_tup {K : PySem.W.Frag} {U : Addr → Prop} {H : Hp} {v : V} {ds : List D} (r : Rp K U H v (ntup ds)) : Rp K U H v (.tuple ds) := by
  obtain ⟨a, xs, rfl, ⟨o, h, _⟩, r⟩ := nt_inv r
  exact .tup (.inl (.inr ⟨o, h⟩)) r
/-- .. read as a tuple -/
theorem ev_varN {i : Nat} {ds : List D} (h : ρ[i]? = some (some (ntup ds))) (q : P (.tuple ds) m) : Ev W (tVar i) m ρ P := fun U σ H I Q k => by
  obtain ⟨v, e, r⟩ := I.env.get h
  exact ⟨v, e, k v _ m H Go.refl I (nt_tup r) q⟩
/-! ### tests -/
variable {PB : Bool → M → Prop}
theorem et_test (h : Ev W te m ρ fun d1 m1 => ∃ b, d1 = .bool b ∧ PB b m1) : EvT W (tTest te) m ρ PB := fun U σ H I Q k =>
  h U σ H I _ fun x d1 m1 H1 e1 I1 r1 ⟨b, e, p1⟩ => by
    subst e
    cases r1
    exact ⟨b, rfl, k b m1 H1 e1 I1 p1⟩
theorem et_B (h : Ev W te m ρ fun d1 m1 => ∃ b, d1 = .bool b ∧ PB b m1) : EvT W (tB te) m ρ PB := et_test h
theorem et_and (h : EvT W t m ρ fun b m1 => if b = true then EvT W u m1 ρ PB else PB false m1) : EvT W (tAnd t u) m ρ PB := fun U σ H I Q k =>
  h U σ H I _ fun b m1 H1 e1 I1 p1 => by
    cases b with
    | true => exact p1 U σ H1 I1 Q fun b m' H3 e3 I3 p3 => k b m' H3 (e1.trans e3) I3 p3
    | false => exact k false m1 H1 e1 I1 p1
theorem et_or (h : EvT W t m ρ fun b m1 => if b = true then PB true m1 else EvT W u m1 ρ PB) : EvT W (tOr t u) m ρ PB := fun U σ H I Q k =>
  h U σ H I _ fun b m1 H1 e1 I1 p1 => by
    cases b with
    | true => exact k true m1 H1 e1 I1 p1
    | false => exact p1 U σ H1 I1 Q fun b m' H3 e3 I3 p3 => k b m' H3 (e1.trans e3) I3 p3
theorem et_not (h : EvT W t m ρ fun b m1 => PB (!b) m1) : EvT W (tNot t) m ρ PB := fun U σ H I Q k =>
  h U σ H I _ fun b m1 H1 e1 I1 p1 => k (!b) m1 H1 e1 I1 p1
theorem et_yes (h : PB true m) : EvT W tYes m ρ PB := fun U σ H I Q k => k true m H Go.refl I h
/-! ### arguments, displays -/
variable {PA' : List D → M → Prop} {tr : TA}
theorem ea_nil (h : PA' [] m) : EvA W tNil m ρ PA' := fun U σ H I Q k => k [] [] m H Go.refl I .nil h
theorem ea_cons (h : Ev W ta m ρ fun d1 m1 => EvA W tr m1 ρ fun ds m2 => PA' (d1 :: ds) m2) : EvA W (tCons ta tr) m ρ PA' := fun U σ H I Q k =>
  h U σ H I _ fun x d1 m1 H1 e1 I1 r1 p1 => p1 U σ H1 I1 _ fun vs ds m2 H2 e2 I2 r2 p2 => k _ _ m2 H2 (e1.trans e2) I2 (.cons (r1.go (K := W.K) I1 e2) r2) p2
theorem ev_tup (h : EvA W tr m ρ fun ds m' => ds.length ≤ sizeLine ∧ P (.tuple ds) m') : Ev W (tTup tr) m ρ P := fun U σ H I Q k =>
  h U σ H I _ fun vs ds m2 H2 e2 I2 r2 ⟨hl, p2⟩ => ⟨by rw [r2.length]; exact hl, fun p hp => k _ _ m2 _ (e2.trans (Go.new hp)) (I2.new hp) (.tup (.inl (.inl upd_same)) (r2.mono I2.uok (ExU.new hp))) p2⟩
/-- a new list is laid: ours -/
theorem StU.lay {U : Addr → Prop} {σ : L2.St} {H : Hp} {p : Addr} {xs : List V} {ds : List D} (I : StU W U m ρ σ H) (hp : H p = none) (r : RpAll W.K U H xs ds) : StU W (more U p) ((p, .lst ds) :: m) ρ σ (upd H p (.lst xs)) :=
  I.own hp (by trivial) ⟨xs, upd_same, (r.grow hp).mono (fun a u h e => by
    rcases h with h | h
    · exact I.uok a u h e
    · subst h; rw [hp] at e; cases e) (ExU.put (.inr rfl))⟩
theorem el_lst {P : List D → M → Prop} (h : EvA W tr m ρ fun ds m' => ds.length ≤ sizeLine ∧ P ds m') : EvL W (tLst tr) m ρ P := fun U σ H I Q k =>
  h U σ H I _ fun vs ds m2 H2 e2 I2 r2 ⟨hl, p2⟩ => ⟨by rw [r2.length]; exact hl, fun p hp =>
    k p ds m2 _ (e2.fresh I I2 hp) (e2.trans (Go.new hp)) (I2.lay hp r2) p2⟩
theorem ev_cb {r : List V → Hp → VK → Prop} (h : EvA W tr m ρ fun ds m1 => CallD W r ds m1 P) : Ev W (tCB r tr) m ρ P := fun U σ H I Q k =>
  h U σ H I _ fun vs ds m1 H1 e1 I1 r1 p1 => p1 U ρ σ H1 vs I1 r1 Q fun z d m' H3 e3 I3 r3 p3 => k z d m' H3 (e1.trans e3) I3 r3 p3
theorem el_cb {r : List V → Hp → VK → Prop} {P : List D → M → Prop} (h : EvA W tr m ρ fun ds m1 => CallDL W r ds m1 P) : EvL W (tCB r tr) m ρ P := fun U σ H I Q k =>
  h U σ H I _ fun vs ds m1 H1 e1 I1 r1 p1 => p1 U ρ σ H1 vs I1 r1 Q fun p ds m' H3 hp e3 I3 p3 => k p ds m' H3 (e1.fresh I I1 hp) (e1.trans e3) I3 p3
/-! ### statements -/
variable {ts tu : TS} {g : TG}
theorem sv_seq (h : Sv W ts m ρ { D0 with nx := fun m' ρ' => Sv W tu m' ρ' D0 }) : Sv W (tSeq ts tu) m ρ D0 := fun U σ H I E k =>
  h U σ H I _ ⟨fun U' m' ρ' σ' H' f I' q => q U' σ' H' I' E (k.fut f), k.rt, k.bk, k.ct⟩
theorem sv_next (h : D0.nx m ρ) : Sv W tNext m ρ D0 := fun U σ H I E k => k.nx U m ρ σ H Fut.refl I h
theorem sv_break (h : D0.bk m ρ) : Sv W tBreak m ρ D0 := fun U σ H I E k => k.bk U m ρ σ H Fut.refl I h
theorem sv_cont (h : D0.ct m ρ) : Sv W tCont m ρ D0 := fun U σ H I E k => k.ct U m ρ σ H Fut.refl I h
theorem sv_drop (h : Ev W te m ρ fun _ m' => D0.nx m' ρ) : Sv W (tDrop te) m ρ D0 := fun U σ H I E k =>
  h U σ H I _ fun x d1 m1 H1 e1 I1 r1 p1 => k.nx U m1 ρ σ H1 (Fut.of (e1.exU I)) I1 p1
theorem sv_ret (h : Ev W te m ρ fun d m' => D0.rt d m') : Sv W (tRet te) m ρ D0 := fun U σ H I E k =>
  h U σ H I _ fun x d1 m1 H1 e1 I1 r1 p1 => k.rt U m1 ρ σ x d1 H1 (Fut.of (e1.exU I)) I1 r1 p1
theorem sv_retN (h : D0.rt .none m) : Sv W tRetN m ρ D0 := fun U σ H I E k => k.rt U m ρ σ _ _ H Fut.refl I .non h
theorem sv_if {c : TT} (h : EvT W c m ρ fun b m1 => if b = true then Sv W ts m1 ρ D0 else Sv W tu m1 ρ D0) : Sv W (tIfS c ts tu) m ρ D0 := fun U σ H I E k =>
  h U σ H I _ fun b m1 H1 e1 I1 p1 => by
    cases b with
    | true => exact p1 U σ H1 I1 E (k.fut (Fut.of (e1.exU I)))
    | false => exact p1 U σ H1 I1 E (k.fut (Fut.of (e1.exU I)))
theorem sv_asg (h : Ev W te m ρ fun d m1 => Gv W g d m1 ρ D0.nx) : Sv W (tAsg te g) m ρ D0 := fun U σ H I E k =>
  h U σ H I _ fun x d1 m1 H1 e1 I1 r1 p1 => p1 U σ H1 x I1 r1 _ fun ρ' σ' I2 q => k.nx U m1 ρ' σ' H1 (Fut.of (e1.exU I)) I2 q
theorem gv_name {i : Nat} {P : M → Names → Prop} (h : P m (ρ.set i (some d))) : Gv W (gName i) d m ρ P := fun U σ H v I r Q k => k _ _ (I.set r i) h
theorem gv_nil {P : M → Names → Prop} (h : P m ρ) : Gvs W gNil [] m ρ P := fun U σ H v I r Q k => by
  cases r
  exact ⟨rfl, k _ _ I h⟩
theorem gv_cons {g : TG} {gs : TGs} {ds : List D} {P : M → Names → Prop} (h : Gv W g d m ρ fun m' ρ' => Gvs W gs ds m' ρ' P) : Gvs W (gCons g gs) (d :: ds) m ρ P := fun U σ H v I r Q k => by
  cases r with
  | cons r1 r2 => exact ⟨_, _, rfl, h U σ H _ I r1 _ fun ρ' σ' I' q => q U σ' H _ I' r2 Q k⟩
theorem gv_tup {gs : TGs} {ds : List D} {n : Nat} {P : M → Names → Prop} (hn : ds.length = n) (h : Gvs W gs ds m ρ P) : Gv W (gTup W.K n gs) (.tuple ds) m ρ P := fun U σ H v I r Q k => by
  cases r with
  | tup h1 h2 => exact ⟨_, _, rfl, h1, h2.length.trans hn, h U σ H _ I h2 Q k⟩
theorem sv_par {i j : Nat} (h : EvA W tr m ρ fun ds m1 => ∃ a b, ds = [a, b] ∧ D0.nx m1 ((ρ.set i (some a)).set j (some b))) : Sv W (tPar i j tr) m ρ D0 := fun U σ H I E k =>
  h U σ H I _ fun vs ds m1 H1 e1 I1 r1 ⟨a, b, e, p1⟩ => by
    subst e
    cases r1 with
    | cons ra r1 => cases r1 with
      | cons rb r1 =>
        cases r1
        exact ⟨_, _, rfl, k.nx U m1 _ _ H1 (Fut.of (e1.exU I)) ((I1.set ra i).set rb j) p1⟩
theorem sv_par3 {i j l : Nat} (h : EvA W tr m ρ fun ds m1 => ∃ a b c, ds = [a, b, c] ∧ D0.nx m1 (((ρ.set i (some a)).set j (some b)).set l (some c))) : Sv W (tPar3 i j l tr) m ρ D0 := fun U σ H I E k =>
  h U σ H I _ fun vs ds m1 H1 e1 I1 r1 ⟨a, b, c, e, p1⟩ => by
    subst e
    cases r1 with
    | cons ra r1 => cases r1 with
      | cons rb r1 => cases r1 with
        | cons rc r1 =>
          cases r1
          exact ⟨_, _, _, rfl, k.nx U m1 _ _ H1 (Fut.of (e1.exU I)) (((I1.set ra i).set rb j).set rc l) p1⟩
/-- name = a new list that will change -/
theorem sv_asgM {i : Nat} (h : EvL W te m ρ fun ds m1 => ∀ l : Addr, D0.nx ((l, .lst ds) :: m1) (ρ.set i (some (ob l)))) : Sv W (tAsg te (gName i)) m ρ D0 := fun U σ H I E k =>
  h U σ H I _ fun p ds m1 H1 hp e1 J q => by
    refine k.nx (more U p) _ _ _ H1 ⟨e1.exU I, fun a h => .inl h, fun a h => ?_⟩ (J.set (.ob p) i) (q p)
    rcases h with h | h
    · exact .inl h
    · exact .inr (by rw [h]; exact hp)
/-- the state looked at otherwise -/
theorem sv_mle {m' : M} (h : MLe m m') (k : Sv W ts m' ρ D0) : Sv W ts m ρ D0 := fun U σ H I E q => k U σ H (I.mle h) E q
theorem sv_perm {m' : M} (h : m.Perm m') (k : Sv W ts m' ρ D0) : Sv W ts m ρ D0 := fun U σ H I E q => k U σ H (I.perm h) E q
theorem sv_less {τ : Names} (h : Less ρ τ) (k : Sv W ts m τ D0) : Sv W ts m ρ D0 := fun U σ H I E q => k U σ H (I.less h) E q
/-- a list of ours that is known by a word alone: its items, whatever they are -/
theorem sv_open {i : Nat} {l : Addr} {φ : List V → Prop} (hm : m[i]? = some (l, .abs φ)) (h : ∀ xs, φ xs → ∃ ds : List D, (∀ K U H, RpAll K U H xs ds) ∧ Sv W ts (m.set i (l, .lst ds)) ρ D0) : Sv W ts m ρ D0 := fun U σ H I E q => by
  obtain ⟨_, _, _, xs, h1, h2⟩ := I.mem (l, .abs φ) (List.mem_of_getElem? hm)
  obtain ⟨ds, r, k⟩ := h xs h2
  have h1 : H l = some (.lst xs) := h1
  have f : ∀ (n : M) (j : Nat), n[j]? = some (l, .abs φ) → ∀ p ∈ n.set j (l, .lst ds), p ∈ n ∨ p = (l, .lst ds) := fun n j _ p hp => (List.mem_or_eq_of_mem_set hp)
  have kk : ∀ (n : M) (j : Nat), n[j]? = some (l, .abs φ) → (n.set j (l, .lst ds)).map (·.1) = n.map (·.1) := by
    intro n
    induction n with
    | nil => intro j e; simp at e
    | cons a n ih =>
      intro j e
      cases j with
      | zero =>
        have e : a = (l, .abs φ) := Option.some.inj e
        subst e
        rfl
      | succ j =>
        show a.1 :: (n.set j _).map (·.1) = a.1 :: n.map (·.1)
        rw [ih j (by simpa using e)]
  refine k U σ H ⟨I.uok, I.ut, I.fu, I.str, I.u0, I.un, I.e0, I.sf, fun p hp => ?_, by rw [kk m i hm]; exact I.nd, I.env⟩ E q
  rcases f m i hm p hp with hp | hp
  · exact I.mem p hp
  · subst hp
    obtain ⟨a, b, c, _⟩ := I.mem (l, .abs φ) (List.mem_of_getElem? hm)
    exact ⟨a, b, c, xs, h1, r _ _ _⟩
/-! ### an entry that is not looked at -/
theorem StU.back {U : Addr → Prop} {σ : L2.St} {H H' : Hp} {m' : M} {x : Addr × MO} (I : StU W U (x :: m) ρ σ H) (g : Go W m H m' H') (J : StU W U m' ρ σ H') : StU W U (x :: m') ρ σ H' := by
  have nd := I.nd
  rw [List.map_cons, List.nodup_cons] at nd
  refine ⟨J.uok, J.ut, J.fu, J.str, J.u0, J.un, J.e0, J.sf, fun q h => ?_, ?_, J.env⟩
  · rcases List.mem_cons.mp h with rfl | h
    · obtain ⟨a, b, c, d⟩ := I.mem q List.mem_cons_self
      refine ⟨a, b, c, d.mono I.uok (fun a o h n => ?_) ?_⟩
      · exact g.exU I.forget a o h n
      · have := I.ut q.1 a
        cases e : H q.1 with
        | none => exact absurd e this
        | some o => exact g.ex q.1 o e b nd.1
    · exact J.mem q h
  · rw [List.map_cons, List.nodup_cons, g.ks]
    exact nd
theorem Go.cons {H H' : Hp} {m' : M} {x : Addr × MO} (g : Go W m H m' H') : Go W (x :: m) H (x :: m') H' :=
  ⟨fun a o h n k => g.ex a o h n fun z => k (List.mem_cons_of_mem _ z), by rw [List.map_cons, List.map_cons, g.ks]⟩
theorem Ev.frame {x : Addr × MO} (h : Ev W te m ρ fun d m' => P d (x :: m')) : Ev W te (x :: m) ρ P := fun U σ H I Q k =>
  h U σ H I.forget Q fun v d m' H2 g J r p => k v d _ H2 g.cons (I.back g J) r p
theorem EvT.frame {x : Addr × MO} (h : EvT W t m ρ fun d m' => PB d (x :: m')) : EvT W t (x :: m) ρ PB := fun U σ H I Q k =>
  h U σ H I.forget Q fun d m' H2 g J p => k d _ H2 g.cons (I.back g J) p
theorem EvA.frame {x : Addr × MO} (h : EvA W tr m ρ fun d m' => PA' d (x :: m')) : EvA W tr (x :: m) ρ PA' := fun U σ H I Q k =>
  h U σ H I.forget Q fun vs d m' H2 g J r p => k vs d _ H2 g.cons (I.back g J) r p
theorem fut_more {U : Addr → Prop} {σ : L2.St} {H H1 : Hp} {m1 : M} {p : Addr} (I : StU W U m ρ σ H) (e1 : Go W m H m1 H1) (hp : H p = none) : Fut U H (more U p) H1 :=
  ⟨e1.exU I, fun a h => .inl h, fun a h => h.elim .inl fun e => .inr (by rw [e]; exact hp)⟩
/-- a, b = [..], y where the new list will change -/
theorem sv_parM {i j : Nat} (h : EvL W te m ρ fun ds m1 => EvA W tr m1 ρ fun es m2 => ∃ b, es = [b] ∧ ∀ p : Addr, D0.nx ((p, .lst ds) :: m2) ((ρ.set i (some (ob p))).set j (some b))) : Sv W (tPar i j (tCons te tr)) m ρ D0 := fun U σ H I E k =>
  h U σ H I _ fun p ds m1 H1 hp e1 J q => by
    refine (EvA.frame (x := (p, .lst ds)) (PA' := fun es M => ∃ m2, M = (p, .lst ds) :: m2 ∧ ∃ b, es = [b] ∧ ∀ p : Addr, D0.nx ((p, .lst ds) :: m2) ((ρ.set i (some (ob p))).set j (some b))) fun U' σ' H0 IA QA kA => q U' σ' H0 IA QA fun vs es mb Hb gb Ib rb pb => kA vs es mb Hb gb Ib rb ⟨mb, rfl, pb⟩) (more U p) σ H1 J _ fun vs es M2 H2 g2 J2 r2 ⟨m2, eM, b, ee, nx⟩ => ?_
    subst eM ee
    cases r2 with
    | cons rb r2 =>
      cases r2
      exact ⟨_, _, rfl, k.nx (more U p) _ _ _ H2 ((fut_more I e1 hp).trans (Fut.of (g2.exU J))) ((J2.set (.ob p) i).set rb j) (nx p)⟩
theorem sv_par3M {i j l : Nat} (h : EvL W te m ρ fun ds m1 => EvA W tr m1 ρ fun es m2 => ∃ b c, es = [b, c] ∧ ∀ p : Addr, D0.nx ((p, .lst ds) :: m2) (((ρ.set i (some (ob p))).set j (some b)).set l (some c))) : Sv W (tPar3 i j l (tCons te tr)) m ρ D0 := fun U σ H I E k =>
  h U σ H I _ fun p ds m1 H1 hp e1 J q => by
    refine (EvA.frame (x := (p, .lst ds)) (PA' := fun es M => ∃ m2, M = (p, .lst ds) :: m2 ∧ ∃ b c, es = [b, c] ∧ ∀ p : Addr, D0.nx ((p, .lst ds) :: m2) (((ρ.set i (some (ob p))).set j (some b)).set l (some c))) fun U' σ' H0 IA QA kA => q U' σ' H0 IA QA fun vs es mb Hb gb Ib rb pb => kA vs es mb Hb gb Ib rb ⟨mb, rfl, pb⟩) (more U p) σ H1 J _ fun vs es M2 H2 g2 J2 r2 ⟨m2, eM, b, c, ee, nx⟩ => ?_
    subst eM ee
    cases r2 with
    | cons rb r2 => cases r2 with
      | cons rc r2 =>
        cases r2
        exact ⟨_, _, _, rfl, k.nx (more U p) _ _ _ H2 ((fut_more I e1 hp).trans (Fut.of (g2.exU J))) (((J2.set (.ob p) i).set rb j).set rc l) (nx p)⟩
theorem MAt.fut {K : PySem.W.Frag} {U U' : Addr → Prop} {H H' : Hp} {a : Addr} {o : MO} (ok : UOk U H) (f : Fut U H U' H') (same : H' a = H a) (h : MAt K U H a o) : MAt K U' H' a o := by
  have ks : ∀ {κ : Type} {xs : List (κ × V)} {ds : List (κ × D)}, RpKs K U H xs ds → RpKs K U' H' xs ds := fun {κ xs ds} r => by
    induction r with
    | nil => exact .nil
    | cons a _ ih => exact .cons (a.fut ok f) ih
  cases o with
  | lst ds => obtain ⟨xs, h1, h2⟩ := h; exact ⟨xs, same.trans h1, h2.fut ok f⟩
  | dK ds => obtain ⟨xs, h1, h2⟩ := h; exact ⟨xs, same.trans h1, ks h2⟩
  | dT ds => obtain ⟨xs, h1, h2⟩ := h; exact ⟨xs, same.trans h1, ks h2⟩
  | ins C dx ds => obtain ⟨xs, h1, h2⟩ := h; exact ⟨xs, same.trans h1, ks h2⟩
  | abs φ => obtain ⟨xs, h1, h2⟩ := h; exact ⟨xs, same.trans h1, h2⟩
/-- .. behind a new list -/
theorem StU.backN {U : Addr → Prop} {σ : L2.St} {H H' : Hp} {m' : M} {x : Addr × MO} {q : Addr} {mo : MO} (I : StU W U (x :: m) ρ σ H) (g : Go W m H m' H') (hq : H q = none) (J : StU W (more U q) ((q, mo) :: m') ρ σ H') : StU W (more U q) ((q, mo) :: x :: m') ρ σ H' := by
  have nd := I.nd
  rw [List.map_cons, List.nodup_cons] at nd
  have nd2 := J.nd
  rw [List.map_cons, List.nodup_cons] at nd2
  obtain ⟨a, b, c, d⟩ := I.mem x List.mem_cons_self
  have hx := I.ut x.1 a
  have f : Fut U H (more U q) H' := ⟨g.exU I.forget, fun a h => .inl h, fun a h => h.elim .inl fun e => .inr (by rw [e]; exact hq)⟩
  refine ⟨J.uok, J.ut, J.fu, J.str, J.u0, J.un, J.e0, J.sf, fun p h => ?_, ?_, J.env⟩
  · rcases List.mem_cons.mp h with rfl | h
    · exact J.mem _ List.mem_cons_self
    · rcases List.mem_cons.mp h with rfl | h
      · refine ⟨.inl a, b, c, d.fut I.uok f ?_⟩
        cases e : H p.1 with
        | none => exact absurd e hx
        | some o => exact g.ex p.1 o e b nd.1
      · exact J.mem p (List.mem_cons_of_mem _ h)
  · rw [List.map_cons, List.nodup_cons, List.map_cons, List.mem_cons, not_or, List.nodup_cons, g.ks]
    refine ⟨⟨fun e => hx ?_, ?_⟩, nd⟩
    · have e : q = x.1 := e
      rw [← e]; exact hq
    · have := nd2.1
      rw [g.ks] at this
      exact this
/-- both lists will change -/
theorem sv_parMM {i j : Nat} {te' : TE} (h : EvL W te m ρ fun ds m1 => EvL W te' m1 ρ fun es m2 => ∀ p q : Addr, D0.nx ((q, .lst es) :: (p, .lst ds) :: m2) ((ρ.set i (some (ob p))).set j (some (ob q)))) : Sv W (tPar i j (tCons te (tCons te' tNil))) m ρ D0 := fun U σ H I E k =>
  h U σ H I _ fun p ds m1 H1 hp e1 J k2 => by
    refine k2 (more U p) σ H1 J.forget _ fun q es m2 H2 hq g2 J2 nx => ?_
    have J3 := J.backN g2 hq J2
    have f2 : Fut (more U p) H1 (more (more U p) q) H2 := ⟨g2.exU J.forget, fun a h => .inl h, fun a h => h.elim .inl fun e => .inr (by rw [e]; exact hq)⟩
    exact ⟨_, _, rfl, k.nx _ _ _ _ H2 ((fut_more I e1 hp).trans f2) ((J3.set (.ob p) i).set (.ob q) j) (nx p q)⟩
end
end DL

set_option Elab.async false
set_option linter.all false
set_option maxRecDepth 100000
set_option maxHeartbeats 2000000
namespace DL
open PySem PySem.Spec PyProof.Rows L2

/-! ### data that can be compared as data -/
mutual
def plain : PyData → Bool
  | .none => true
  | .bool _ => true
  | .int _ => true
  | .str _ => true
  | .list xs => plainAll xs
  | .tuple xs => plainAll xs
  | .dict _ => false
def plainAll : List PyData → Bool
  | [] => true
  | x :: xs => plain x && plainAll xs
end
mutual
theorem Rp.dp {K : PySem.W.Frag} {U : Addr → Prop} {H : Hp} : ∀ {v : V} {d : PyData}, Rp K U H v d → plain d = true → Dp K H v d
  | _, _, .non, _ => .non
  | _, _, .bl b, _ => .bl b
  | _, _, .int i, _ => .int i
  | _, _, .str x, _ => .str x
  | _, _, .lst n h r, p => .lst (.inl (.inl h)) (RpAll.dp r (by simpa [plain] using p))
  | _, _, .tup h r, p => .tup h (RpAll.dp r (by simpa [plain] using p))
  | _, _, .ob a, p => by simp [DL.ob, plain] at p
  | _, _, .scr h, p => by simp [DL.scr, plain] at p
  | _, _, .ty h, p => by simp [DL.tyD, plain] at p
  | _, _, .ntup h r, p => by simp [DL.ntup, plain] at p
theorem RpAll.dp {K : PySem.W.Frag} {U : Addr → Prop} {H : Hp} : ∀ {v : List V} {d : List PyData}, RpAll K U H v d → plainAll d = true → DpAll K H v d
  | _, _, .nil, _ => .nil
  | _, _, .cons h r, p => by
    rw [plainAll, Bool.and_eq_true] at p
    exact .cons (Rp.dp h p.1) (RpAll.dp r p.2)
end
theorem plainAll_iff {ds : List PyData} : plainAll ds = true ↔ ∀ d ∈ ds, plain d = true := by
  induction ds with
  | nil => simp [plainAll]
  | cons d ds ih => simp [plainAll, ih]
section
variable {W : Wd} {m : M} {P : PD} {d d1 d2 : D} {U : Addr → Prop} {ρ : Names} {σ : L2.St} {H : Hp}
/-! ### operators -/
def rAddA (K : PySem.W.Frag) : R2 := fun x y H Q => rI0 (fun i j => .int (i + j)) x y H Q ∨ ((∃ i j, x = .str i ∧ y = .str j ∧ i.length + j.length ≤ sizeLine ∧ Q (.str (i ++ j)) H) ∨ (rCat x y H Q ∨ rCatA K x y H Q))
theorem op_addA {X : Cx} : OpR X (binaryOp .Add) (rAddA X.K) := op_add.or (op_add_str.or (op_cat.or op_catA))
theorem od_add {i j : Int} (h : P (.int (i + j)) m) : OpD W (rAddA W.K) (.int i) (.int j) m P := fun U ρ σ H v w I r1 r2 Q k => by
  cases r1; cases r2
  exact .inl ⟨i, j, rfl, rfl, k _ _ m H Go.refl I (.int _) h⟩
theorem od_addS {i j : Str} (hl : i.length + j.length ≤ sizeLine) (h : P (.str (i ++ j)) m) : OpD W (rAddA W.K) (.str i) (.str j) m P := fun U ρ σ H v w I r1 r2 Q k => by
  cases r1; cases r2
  exact .inr (.inl ⟨i, j, rfl, rfl, hl, k _ _ m H Go.refl I (.str _) h⟩)
theorem k_tup {p : Addr} {xs : List V} {ds : List D} {Q : VK} (I : StU W U m ρ σ H) (hp : H p = none) (r : RpAll W.K U H xs ds) (k : Kt W U m ρ σ H P Q) (h : P (.tuple ds) m) : Q (.ref p) (upd H p (.tup xs)) :=
  k _ _ m _ (Go.new hp) (I.new hp) (.tup (.inl (.inl upd_same)) (r.mono I.uok (ExU.new hp))) h
theorem k_lst {p : Addr} {xs : List V} {ds : List D} {Q : VK} (I : StU W U m ρ σ H) (hp : H p = none) (r : RpAll W.K U H xs ds) (k : Kt W U m ρ σ H P Q) (h : P (.list ds) m) : Q (.ref p) (upd H p (.lst xs)) :=
  k _ _ m _ (Go.new hp) (I.new hp) (.lst (fun z => I.ut p z hp) upd_same (r.mono I.uok (ExU.new hp))) h
theorem od_addL {xs ys : List D} (hl : xs.length + ys.length ≤ sizeLine) (h : P (.list (xs ++ ys)) m) : OpD W (rAddA W.K) (.list xs) (.list ys) m P := fun U ρ σ H v w I r1 r2 Q k => by
  cases r1 with
  | lst n1 h1 a1 => cases r2 with
    | lst n2 h2 a2 => exact .inr (.inr (.inl ⟨_, _, _, _, rfl, rfl, h1, h2, by rw [a1.length, a2.length]; exact hl, fun p hp => k_lst I hp (a1.append a2) k h⟩))
theorem od_addT {xs ys : List D} (hl : xs.length + ys.length ≤ sizeLine) (h : P (.tuple (xs ++ ys)) m) : OpD W (rAddA W.K) (.tuple xs) (.tuple ys) m P := fun U ρ σ H v w I r1 r2 Q k => by
  cases r1 with
  | tup h1 a1 => cases r2 with
    | tup h2 a2 =>
      refine .inr (.inr (.inr ⟨_, _, _, _, rfl, rfl, h1, h2, by rw [a1.length, a2.length]; exact hl, fun z => ?_, fun _ z => ?_, fun _ _ p hp => k_tup I hp (a1.append a2) k h⟩))
      · subst z
        cases a1
        exact k _ _ m H Go.refl I (.tup h2 a2) h
      · subst z
        cases a2
        rw [List.append_nil] at h
        exact k _ _ m H Go.refl I (.tup h1 a1) h
theorem od_sub {i j : Int} (h : P (.int (i - j)) m) : OpD W (rI0 fun i j => .int (i - j)) (.int i) (.int j) m P := fun U ρ σ H v w I r1 r2 Q k => by
  cases r1; cases r2
  exact ⟨i, j, rfl, rfl, k _ _ m H Go.refl I (.int _) h⟩
theorem od_rI {C : Int → Int → Prop} {g : Int → Int → Int} {i j : Int} (c : C i j) (h : P (.int (g i j)) m) : OpD W (rI C fun i j => .int (g i j)) (.int i) (.int j) m P := fun U ρ σ H v w I r1 r2 Q k => by
  cases r1; cases r2
  exact ⟨i, j, rfl, rfl, c, k _ _ m H Go.refl I (.int _) h⟩
/-- ints times ints, lists and texts times ints -/
def rMulA (K : PySem.W.Frag) : R2 := fun x y H Q => rI CMulW (fun i j => .int (i * j)) x y H Q ∨ rRep x y H Q
theorem op_mulA {X : Cx} : OpR X (binaryOp .Mult) (rMulA X.K) := op_mulW.or op_rep
theorem od_mul {i j : Int} (c : CMulW i j) (h : P (.int (i * j)) m) : OpD W (rMulA W.K) (.int i) (.int j) m P := fun U ρ σ H v w I r1 r2 Q k => .inl (od_rI c h U ρ σ H v w I r1 r2 Q k)
theorem RpAll.rep {K : PySem.W.Frag} {xs : List V} {ds : List D} (h : RpAll K U H xs ds) : ∀ n : Nat, RpAll K U H (List.replicate n xs).flatten (List.replicate n ds).flatten
  | 0 => .nil
  | n + 1 => by
    rw [List.replicate_succ, List.replicate_succ, List.flatten_cons, List.flatten_cons]
    exact h.append (RpAll.rep h n)
theorem od_rep {xs : List D} {j : Int} (h1 : -(2 ^ 63) ≤ j) (h2 : j < 2 ^ 63) (h3 : xs.length * j.toNat ≤ sizeLine) (h : P (.list (List.replicate j.toNat xs).flatten) m) : OpD W (rMulA W.K) (.list xs) (.int j) m P := fun U ρ σ H v w I r1 r2 Q k => by
  cases r2
  cases r1 with
  | lst n1 hh a1 => exact .inr ⟨_, j, _, rfl, rfl, hh, h1, h2, by rw [a1.length]; exact h3, fun p hp => k_lst I hp (a1.rep j.toNat) k h⟩
theorem od_fdiv {i j : Int} (c : CDivW i j) (h : P (.int (i / j)) m) : OpD W (rI CDivW fun i j => .int (i / j)) (.int i) (.int j) m P := od_rI c h
theorem od_mod {i j : Int} (c : 0 < j) (h : P (.int (i % j)) m) : OpD W (rI (fun _ j => 0 < j) fun i j => .int (i % j)) (.int i) (.int j) m P := od_rI (C := fun _ j => 0 < j) c h
theorem od_pow {i j : Int} (c : CPow i j) (h : P (.int (i ^ j.toNat)) m) : OpD W (rI CPow fun i j => .int (i ^ j.toNat)) (.int i) (.int j) m P := od_rI c h
theorem ud_neg {i : Int} (h : P (.int (-i)) m) : UnD W (rU fun i => .int (-i)) (.int i) m P := fun U ρ σ H v I r1 Q k => by
  cases r1
  exact ⟨i, rfl, k _ _ m H Go.refl I (.int _) h⟩
theorem od_cmp {p : Int → Int → Bool} {i j : Int} (h : P (.bool (p i j)) m) : OpD W (rI0 fun i j => .bl (p i j)) (.int i) (.int j) m P := fun U ρ σ H v w I r1 r2 Q k => by
  cases r1; cases r2
  exact ⟨i, j, rfl, rfl, k _ _ m H Go.refl I (.bl _) h⟩
theorem od_lt {i j : Int} (h : P (.bool (decide (i < j))) m) : OpD W (rI0 fun i j => .bl (decide (i < j))) (.int i) (.int j) m P := od_cmp (p := fun i j => decide (i < j)) h
theorem od_le {i j : Int} (h : P (.bool (decide (i ≤ j))) m) : OpD W (rI0 fun i j => .bl (decide (i ≤ j))) (.int i) (.int j) m P := od_cmp (p := fun i j => decide (i ≤ j)) h
theorem od_gt {i j : Int} (h : P (.bool (decide (j < i))) m) : OpD W (rI0 fun i j => .bl (decide (j < i))) (.int i) (.int j) m P := od_cmp (p := fun i j => decide (j < i)) h
theorem od_ge {i j : Int} (h : P (.bool (decide (j ≤ i))) m) : OpD W (rI0 fun i j => .bl (decide (j ≤ i))) (.int i) (.int j) m P := od_cmp (p := fun i j => decide (j ≤ i)) h
theorem op_powW {X : Cx} : OpR X (binaryOp .Pow) (rI (fun i j => 0 ≤ j ∧ (Builtin.Int.intBits i : Int) * j ≤ 2 ^ 27) fun i j => .int (i ^ j.toNat)) := opI fun _ _ _ _ _ _ _ hc q => PyProof.Rows.pow_int hc.1 hc.2 q
theorem od_powW {i j : Int} (c : 0 ≤ j ∧ (Builtin.Int.intBits i : Int) * j ≤ 2 ^ 27) (h : P (.int (i ^ j.toNat)) m) : OpD W (rI (fun i j => 0 ≤ j ∧ (Builtin.Int.intBits i : Int) * j ≤ 2 ^ 27) fun i j => .int (i ^ j.toNat)) (.int i) (.int j) m P := od_rI (C := fun i j => 0 ≤ j ∧ (Builtin.Int.intBits i : Int) * j ≤ 2 ^ 27) c h
/-- a tuple known to its object is a tuple -/
theorem od_nt1 {r : R2} {ds : List D} (h : OpD W r (.tuple ds) d2 m P) : OpD W r (ntup ds) d2 m P := fun U ρ σ H v w I r1 r2 Q k => h U ρ σ H v w I (nt_tup r1) r2 Q k
theorem od_nt2 {r : R2} {ds : List D} (h : OpD W r d1 (.tuple ds) m P) : OpD W r d1 (ntup ds) m P := fun U ρ σ H v w I r1 r2 Q k => h U ρ σ H v w I r1 (nt_tup r2) Q k
theorem cd_nt {r : List V → Hp → VK → Prop} {ds es : List D} (h : CallD W r (.tuple ds :: es) m P) : CallD W r (ntup ds :: es) m P := fun U ρ σ H vs I r1 Q k => by
  cases r1 with
  | cons a b => exact h U ρ σ H _ I (.cons (nt_tup a) b) Q k
/-! ### == -/
def rEqA (K : PySem.W.Frag) : R2 := fun x y H Q => rEq x y H Q ∨ rEqD K x y H Q
def rNeA (K : PySem.W.Frag) : R2 := fun x y H Q => rNe x y H Q ∨ rNeD K x y H Q
theorem op_eqA {X : Cx} (hu : X.A.units + 64 < cLine) : OpR X (compareOp .Eq) (rEqA X.K) := op_eq.or (op_eqD hu)
theorem op_neA {X : Cx} (hu : X.A.units + 64 < cLine) : OpR X (compareOp .NotEq) (rNeA X.K) := op_ne.or (op_neD hu)
theorem od_eqI {i j : Int} (h : P (.bool (decide (i = j))) m) : OpD W (rEqA W.K) (.int i) (.int j) m P := fun U ρ σ H v w I r1 r2 Q k => by
  cases r1; cases r2
  refine .inl ⟨rfl, ?_⟩
  have e : decide (V.int i = V.int j) = decide (i = j) := by rw [dec_int, Bool.beq_eq_decide_eq]
  rw [e]
  exact k _ _ m H Go.refl I (.bl _) h
theorem od_neI {i j : Int} (h : P (.bool (!decide (i = j))) m) : OpD W (rNeA W.K) (.int i) (.int j) m P := fun U ρ σ H v w I r1 r2 Q k => by
  cases r1; cases r2
  refine .inl ⟨rfl, ?_⟩
  have e : decide (V.int i = V.int j) = decide (i = j) := by rw [dec_int, Bool.beq_eq_decide_eq]
  rw [e]
  exact k _ _ m H Go.refl I (.bl _) h
theorem od_eqS {i j : Str} (h : P (.bool (decide (i = j))) m) : OpD W (rEqA W.K) (.str i) (.str j) m P := fun U ρ σ H v w I r1 r2 Q k => by
  cases r1; cases r2
  refine .inl ⟨rfl, ?_⟩
  have e : decide (V.str i = V.str j) = decide (i = j) := by
    by_cases z : i = j
    · subst z; simp
    · rw [decide_eq_false z, decide_eq_false fun q => z (V.str.inj q)]
  rw [e]
  exact k _ _ m H Go.refl I (.bl _) h
theorem od_neS {i j : Str} (h : P (.bool (!decide (i = j))) m) : OpD W (rNeA W.K) (.str i) (.str j) m P := fun U ρ σ H v w I r1 r2 Q k => by
  cases r1; cases r2
  refine .inl ⟨rfl, ?_⟩
  have e : decide (V.str i = V.str j) = decide (i = j) := by
    by_cases z : i = j
    · subst z; simp
    · rw [decide_eq_false z, decide_eq_false fun q => z (V.str.inj q)]
  rw [e]
  exact k _ _ m H Go.refl I (.bl _) h
theorem od_eqD (p1 : plain d1 = true) (p2 : plain d2 = true) (s1 : SeqAt.shaped d1 = true) (s2 : SeqAt.shaped d2 = true) (h : P (.bool (PyData.eqv d1 d2)) m) : OpD W (rEqA W.K) d1 d2 m P := fun U ρ σ H v w I r1 r2 Q k =>
  .inr ⟨d1, d2, r1.dp p1, r2.dp p2, s1, s2, k _ _ m H Go.refl I (.bl _) h⟩
theorem od_neD (p1 : plain d1 = true) (p2 : plain d2 = true) (s1 : SeqAt.shaped d1 = true) (s2 : SeqAt.shaped d2 = true) (h : P (.bool (!PyData.eqv d1 d2)) m) : OpD W (rNeA W.K) d1 d2 m P := fun U ρ σ H v w I r1 r2 Q k =>
  .inr ⟨d1, d2, r1.dp p1, r2.dp p2, s1, s2, k _ _ m H Go.refl I (.bl _) h⟩
/-- a list of ours, as it stands -/
theorem StU.at_ {i : Nat} {l : Addr} {mo : MO} (I : StU W U m ρ σ H) (h : m[i]? = some (l, mo)) : U l ∧ ¬ W.S l ∧ MAt W.K U H l mo := by
  obtain ⟨a, b, _, c⟩ := I.mem (l, mo) (List.mem_of_getElem? h)
  exact ⟨a, b, c⟩
theorem ob_inv {K : PySem.W.Frag} {v : V} {l : Addr} (r : Rp K U H v (ob l)) : v = .ref l := by
  generalize hd : ob l = z at r
  cases r with
  | ob b =>
    have e : (l : Int) = (b : Int) := by simpa [ob] using hd
    have e2 : l = b := Int.ofNat.inj e
    rw [e2]
  | _ => simp [ob, scr, ntup, tyD] at hd
theorem scr_inv {K : PySem.W.Frag} {v : V} {ns : List Int} (r : Rp K U H v (scr ns)) : ∃ a, v = .ref a ∧ FzL K H a (ns.map V.int) := by
  generalize hd : scr ns = z at r
  cases r with
  | scr h =>
    rename_i a ns'
    have e : ns.map PyData.int = ns'.map PyData.int := by simpa [scr] using hd
    have e2 : ns = ns' := by
      have f : ∀ l1 l2 : List Int, l1.map PyData.int = l2.map PyData.int → l1 = l2 := by
        intro l1
        induction l1 with
        | nil => intro l2 h; cases l2 with
          | nil => rfl
          | cons a b => simp at h
        | cons x l1 ih => intro l2 h; cases l2 with
          | nil => simp at h
          | cons a b =>
            rw [List.map_cons, List.map_cons] at h
            injection h with h1 h2
            injection h1 with h1
            rw [h1, ih b h2]
      exact f _ _ e
    subst e2
    exact ⟨a, rfl, h⟩
  | _ => simp [ob, scr, ntup, tyD] at hd
/-- the objects of ours that stand in data -/
theorem od_neML {i : Nat} {l : Addr} {ds es : List D} (hm : m[i]? = some (l, .lst ds)) (p1 : plainAll ds = true) (p2 : plainAll es = true) (s1 : SeqAt.shaped (.list ds) = true) (s2 : SeqAt.shaped (.list es) = true)
    (h : P (.bool (!PyData.eqv (.list ds) (.list es))) m) : OpD W (rNeA W.K) (ob l) (.list es) m P := fun U ρ σ H v w I r1 r2 Q k => by
  obtain ⟨_, _, xs, hl, a⟩ := I.at_ hm
  have e := ob_inv r1
  subst e
  exact .inr ⟨.list ds, .list es, .lst (.inl (.inl hl)) (a.dp p1), r2.dp (by simpa [plain] using p2), s1, s2, k _ _ m H Go.refl I (.bl _) h⟩
theorem od_eqML {i : Nat} {l : Addr} {ds es : List D} (hm : m[i]? = some (l, .lst ds)) (p1 : plainAll ds = true) (p2 : plainAll es = true) (s1 : SeqAt.shaped (.list ds) = true) (s2 : SeqAt.shaped (.list es) = true)
    (h : P (.bool (PyData.eqv (.list ds) (.list es))) m) : OpD W (rEqA W.K) (ob l) (.list es) m P := fun U ρ σ H v w I r1 r2 Q k => by
  obtain ⟨_, _, xs, hl, a⟩ := I.at_ hm
  have e := ob_inv r1
  subst e
  exact .inr ⟨.list ds, .list es, .lst (.inl (.inl hl)) (a.dp p1), r2.dp (by simpa [plain] using p2), s1, s2, k _ _ m H Go.refl I (.bl _) h⟩
/-! ### in -/
theorem inV_ints {i : Int} : ∀ ns : List Int, inV (V.int i) (ns.map V.int) = decide (i ∈ ns)
  | [] => rfl
  | n :: ns => by
    have ih := inV_ints (i := i) ns
    show (eqV (V.int n) (V.int i) || inV (V.int i) (ns.map V.int)) = _
    rw [ih]
    have e : eqV (V.int n) (V.int i) = decide (i = n) := by
      show (n == i) = _
      rw [Bool.beq_eq_decide_eq]
      by_cases z : i = n
      · subst z; rfl
      · rw [decide_eq_false z, decide_eq_false fun q => z q.symm]
    rw [e]
    simp [Bool.decide_or]
theorem flat_ints : ∀ ns : List Int, (ns.map V.int).all flatV = true
  | [] => rfl
  | n :: ns => by rw [List.map_cons, List.all_cons, flat_ints ns] <;> rfl
theorem od_inT {neg : Bool} {i : Int} {ns : List Int} (h : P (.bool (if neg = true then !decide (i ∈ ns) else decide (i ∈ ns))) m) : OpD W (rIn W.K neg) (.int i) (.tuple (ns.map .int)) m P := fun U ρ σ H v w I r1 r2 Q k => by
  cases r1
  cases r2 with
  | tup h2 a2 =>
    have e := a2.ints
    subst e
    refine ⟨_, _, rfl, .inr h2, rfl, flat_ints ns, ?_⟩
    rw [inV_ints]
    exact k _ _ m H Go.refl I (.bl _) h
theorem od_inL {neg : Bool} {i : Int} {ns : List Int} (h : P (.bool (if neg = true then !decide (i ∈ ns) else decide (i ∈ ns))) m) : OpD W (rIn W.K neg) (.int i) (.list (ns.map .int)) m P := fun U ρ σ H v w I r1 r2 Q k => by
  cases r1
  cases r2 with
  | lst n2 h2 a2 =>
    have e := a2.ints
    subst e
    refine ⟨_, _, rfl, .inl (.inl (.inl h2)), rfl, flat_ints ns, ?_⟩
    rw [inV_ints]
    exact k _ _ m H Go.refl I (.bl _) h
/-! ### subscripts -/
theorem RpAll.atI {K : PySem.W.Frag} {xs : List V} {ds : List D} (h : RpAll K U H xs ds) {i : Int} (e : atI ds i = some d) : ∃ v, L2.atI xs i = some v ∧ Rp K U H v d := by
  unfold L2.atI at *
  rw [h.length]
  cases q : ixN ds.length i with
  | none => rw [q] at e; cases e
  | some j =>
    rw [q] at e
    exact h.get e
theorem od_ixT {xs : List D} {i : Int} (e : atI xs i = some d) (h : P d m) : OpD W (rIx W.K) (.tuple xs) (.int i) m P := fun U ρ σ H v w I r1 r2 Q k => by
  cases r2
  cases r1 with
  | tup h1 a1 =>
    obtain ⟨v, e1, r⟩ := a1.atI e
    exact .inr (.inl ⟨_, _, _, _, rfl, rfl, h1, e1, k _ _ m H Go.refl I r h⟩)
theorem od_ixL {xs : List D} {i : Int} (e : atI xs i = some d) (h : P d m) : OpD W (rIx W.K) (.list xs) (.int i) m P := fun U ρ σ H v w I r1 r2 Q k => by
  cases r2
  cases r1 with
  | lst n1 h1 a1 =>
    obtain ⟨v, e1, r⟩ := a1.atI e
    exact .inl ⟨_, _, _, _, rfl, rfl, .inl (.inl h1), e1, k _ _ m H Go.refl I r h⟩
theorem od_ixM {n : Nat} {l : Addr} {xs : List D} {i : Int} (hm : m[n]? = some (l, .lst xs)) (e : atI xs i = some d) (h : P d m) : OpD W (rIx W.K) (ob l) (.int i) m P := fun U ρ σ H v w I r1 r2 Q k => by
  cases r2
  have z := ob_inv r1
  subst z
  obtain ⟨_, _, ys, hl, a⟩ := I.at_ hm
  obtain ⟨v, e1, r⟩ := a.atI e
  exact .inl ⟨_, _, _, _, rfl, rfl, .inl (.inl hl), e1, k _ _ m H Go.refl I r h⟩
theorem od_ixR {ns : List Int} {i j : Int} (e : atI ns i = some j) (h : P (.int j) m) : OpD W (rIx W.K) (scr ns) (.int i) m P := fun U ρ σ H v w I r1 r2 Q k => by
  cases r2
  obtain ⟨a, rfl, f⟩ := scr_inv r1
  refine .inl ⟨_, _, _, .int j, rfl, rfl, f.sq, ?_, k _ _ m H Go.refl I (.int j) h⟩
  unfold L2.atI at *
  rw [List.length_map]
  cases q : ixN ns.length i with
  | none => rw [q] at e; cases e
  | some x =>
    rw [q] at e
    have e : ns[x]? = some j := e
    show (ns.map V.int)[x]? = some (.int j)
    rw [List.getElem?_map, e]
    rfl
/-- a stream's own numbers: any that are allowed -/
theorem od_ixS {l : Addr} {i : Int} (hS : W.S l) (hs : ∀ xs, W.Sok xs → ∃ d', atI xs i = some (V.int d') ∧ P (.int d') m) : OpD W (rIx W.K) (ob l) (.int i) m P := fun U ρ σ H v w I r1 r2 Q k => by
  cases r2
  have z := ob_inv r1
  subst z
  obtain ⟨ys, hl, a⟩ := I.str l hS
  obtain ⟨d', e1, r⟩ := hs ys a
  exact .inl ⟨_, _, _, _, rfl, rfl, .inl (.inl hl), e1, k _ _ m H Go.refl I (.int _) r⟩
/-! ### slices -/
def cutD {α : Type} (xs : List α) (lo hi : Option Int) : List α := (xs.drop (HT.sIx xs.length 0 lo)).take (HT.sIx xs.length xs.length hi - HT.sIx xs.length 0 lo)
theorem RpAll.cut {K : PySem.W.Frag} {xs : List V} {ds : List D} (h : RpAll K U H xs ds) (lo hi : Option Int) : RpAll K U H (cutV xs lo hi) (cutD ds lo hi) := by
  unfold cutV cutD
  rw [h.length]
  exact (h.drop _).take _
def SlD (W : Wd) (r : V → Option Int → Option Int → Hp → VK → Prop) (d : D) (lo hi : Option Int) (m : M) (P : PD) : Prop :=
  ∀ U ρ σ H v, StU W U m ρ σ H → Rp W.K U H v d → ∀ Q : VK, Kt W U m ρ σ H P Q → r v lo hi H Q
def SlDL (W : Wd) (r : V → Option Int → Option Int → Hp → VK → Prop) (d : D) (lo hi : Option Int) (m : M) (P : List D → M → Prop) : Prop :=
  ∀ U ρ σ H v, StU W U m ρ σ H → Rp W.K U H v d → ∀ Q : VK, (∀ p ds m' H2, H p = none → Go W m H m' H2 → StU W (more U p) ((p, .lst ds) :: m') ρ σ H2 → P ds m' → Q (.ref p) H2) → r v lo hi H Q
def rSlA' (K : PySem.W.Frag) : V → Option Int → Option Int → Hp → VK → Prop := fun x lo hi H Q => rSlL K x lo hi H Q ∨ rSlA K x lo hi H Q
theorem sl_any {X : Cx} : SlR X (rSlA' X.K) := sl_list.or sl_tupA
theorem eo_none {PO' : Option Int → M → Prop} (h : PO' none m) : EvO W tNoPart m ρ PO' := fun U σ H I Q k => k none m H Go.refl I h
theorem eo_some {te : TE} {PO' : Option Int → M → Prop} (h : Ev W te m ρ fun d m' => ∃ i, d = .int i ∧ PO' (some i) m') : EvO W (tPart te) m ρ PO' := fun U σ H I Q k =>
  h U σ H I _ fun v d m' H2 g I2 r ⟨i, e, p⟩ => by
    subst e
    cases r
    exact ⟨i, rfl, k _ m' H2 g I2 p⟩
theorem ev_sl {r : V → Option Int → Option Int → Hp → VK → Prop} {te : TE} {tl th : TO} (h : Ev W te m ρ fun d m1 => EvO W tl m1 ρ fun lo m2 => EvO W th m2 ρ fun hi m3 => SlD W r d lo hi m3 P) : Ev W (tSl r te tl th) m ρ P := fun U σ H I Q k =>
  h U σ H I _ fun v d m1 H1 e1 I1 r1 p1 => p1 U σ H1 I1 _ fun lo m2 H2 e2 I2 p2 => p2 U σ H2 I2 _ fun hi m3 H3 e3 I3 p3 =>
    p3 U ρ σ H3 v I3 ((r1.go (K := W.K) I1 e2).go (K := W.K) I2 e3) Q fun z d m' H4 e4 I4 r4 p4 => k z d m' H4 (((e1.trans e2).trans e3).trans e4) I4 r4 p4
theorem el_sl {r : V → Option Int → Option Int → Hp → VK → Prop} {te : TE} {tl th : TO} {P : List D → M → Prop} (h : Ev W te m ρ fun d m1 => EvO W tl m1 ρ fun lo m2 => EvO W th m2 ρ fun hi m3 => SlDL W r d lo hi m3 P) : EvL W (tSl r te tl th) m ρ P := fun U σ H I Q k =>
  h U σ H I _ fun v d m1 H1 e1 I1 r1 p1 => p1 U σ H1 I1 _ fun lo m2 H2 e2 I2 p2 => p2 U σ H2 I2 _ fun hi m3 H3 e3 I3 p3 =>
    p3 U ρ σ H3 v I3 ((r1.go (K := W.K) I1 e2).go (K := W.K) I2 e3) Q fun p ds m' H4 hp e4 J p4 => k p ds m' H4 (((e1.trans e2).trans e3).fresh I I3 hp) (((e1.trans e2).trans e3).trans e4) J p4
theorem sd_T {xs : List D} {lo hi : Option Int} (h : P (.tuple (cutD xs lo hi)) m) : SlD W (rSlA' W.K) (.tuple xs) lo hi m P := fun U ρ σ H v I r Q k => by
  cases r with
  | tup h1 a1 =>
    refine .inr ⟨_, _, rfl, h1, fun z => ?_, fun _ p hp => k_tup I hp (a1.cut lo hi) k h⟩
    have e : cutD xs lo hi = xs := by
      unfold cutD
      rw [a1.length] at z
      rw [z.1, z.2]
      simp
    rw [e] at h
    exact k _ _ m H Go.refl I (.tup h1 a1) h
theorem sd_L {xs : List D} {lo hi : Option Int} (h : P (.list (cutD xs lo hi)) m) : SlD W (rSlA' W.K) (.list xs) lo hi m P := fun U ρ σ H v I r Q k => by
  cases r with
  | lst n1 h1 a1 => exact .inl ⟨_, _, rfl, .inl (.inl h1), fun p hp => k_lst I hp (a1.cut lo hi) k h⟩
theorem sd_M {n : Nat} {l : Addr} {xs : List D} {lo hi : Option Int} (hm : m[n]? = some (l, .lst xs)) (h : P (.list (cutD xs lo hi)) m) : SlD W (rSlA' W.K) (ob l) lo hi m P := fun U ρ σ H v I r Q k => by
  have z := ob_inv r
  subst z
  obtain ⟨_, _, ys, hl, a⟩ := I.at_ hm
  exact .inl ⟨_, _, rfl, .inl (.inl hl), fun p hp => k_lst I hp (a.cut lo hi) k h⟩
/-! ### built-ins -/
theorem cd_lenT {xs : List D} (h : P (.int xs.length) m) : CallD W (fun xs H Q => ∃ x n, xs = [x] ∧ LenV W.K x H n ∧ Q (.int n) H) [.tuple xs] m P := fun U ρ σ H vs I r Q k => by
  cases r with
  | cons r1 r2 =>
    cases r2
    cases r1 with
    | tup h1 a1 => exact ⟨_, _, rfl, .inr ⟨_, h1, rfl⟩, by rw [a1.length]; exact k _ _ m H Go.refl I (.int _) h⟩
theorem cd_lenL {xs : List D} (h : P (.int xs.length) m) : CallD W (fun xs H Q => ∃ x n, xs = [x] ∧ LenV W.K x H n ∧ Q (.int n) H) [.list xs] m P := fun U ρ σ H vs I r Q k => by
  cases r with
  | cons r1 r2 =>
    cases r2
    cases r1 with
    | lst n1 h1 a1 => exact ⟨_, _, rfl, .inl ⟨_, .inl (.inl h1), rfl⟩, by rw [a1.length]; exact k _ _ m H Go.refl I (.int _) h⟩
theorem cd_lenM {n : Nat} {l : Addr} {xs : List D} (hm : m[n]? = some (l, .lst xs)) (h : P (.int xs.length) m) : CallD W (fun xs H Q => ∃ x n, xs = [x] ∧ LenV W.K x H n ∧ Q (.int n) H) [ob l] m P := fun U ρ σ H vs I r Q k => by
  cases r with
  | cons r1 r2 =>
    cases r2
    have z := ob_inv r1
    subst z
    obtain ⟨_, _, ys, hl, a⟩ := I.at_ hm
    exact ⟨_, _, rfl, .inl ⟨_, .inl (.inl hl), rfl⟩, by rw [a.length]; exact k _ _ m H Go.refl I (.int _) h⟩
theorem cd_lenR {ns : List Int} (h : P (.int ns.length) m) : CallD W (fun xs H Q => ∃ x n, xs = [x] ∧ LenV W.K x H n ∧ Q (.int n) H) [scr ns] m P := fun U ρ σ H vs I r Q k => by
  cases r with
  | cons r1 r2 =>
    cases r2
    obtain ⟨a, rfl, f⟩ := scr_inv r1
    exact ⟨_, _, rfl, .inl ⟨_, f.sq, rfl⟩, by rw [List.length_map]; exact k _ _ m H Go.refl I (.int _) h⟩
theorem cd_lenS {x : Str} (hl : x.length ≤ sizeLine) (h : P (.int x.length) m) : CallD W (fun xs H Q => ∃ x n, xs = [x] ∧ LenV W.K x H n ∧ Q (.int n) H) [.str x] m P := fun U ρ σ H vs I r Q k => by
  cases r with
  | cons r1 r2 =>
    cases r2
    cases r1
    exact ⟨_, _, rfl, ⟨hl, rfl⟩, k _ _ m H Go.refl I (.int _) h⟩
theorem cd_abs {i : Int} (h : P (.int (if i < 0 then -i else i)) m) : CallD W (fun xs H Q => ∃ i, xs = [.int i] ∧ Q (.int (if i < 0 then -i else i)) H) [.int i] m P := fun U ρ σ H vs I r Q k => by
  cases r with
  | cons r1 r2 =>
    cases r2
    cases r1
    exact ⟨_, rfl, k _ _ m H Go.refl I (.int _) h⟩
theorem cd_max2 {i j : Int} (h : P (.int (max i j)) m) : CallD W (fun xs H Q => ∃ i j, xs = [.int i, .int j] ∧ Q (.int (if j > i then j else i)) H) [.int i, .int j] m P := fun U ρ σ H vs I r Q k => by
  cases r with
  | cons r1 r2 => cases r2 with
    | cons r2 r3 =>
      cases r3
      cases r1
      cases r2
      refine ⟨_, _, rfl, ?_⟩
      have e : (if j > i then j else i) = max i j := by
        split <;> omega
      rw [e]
      exact k _ _ m H Go.refl I (.int _) h
theorem cd_min2 {i j : Int} (h : P (.int (min i j)) m) : CallD W (fun xs H Q => ∃ i j, xs = [.int i, .int j] ∧ Q (.int (if j < i then j else i)) H) [.int i, .int j] m P := fun U ρ σ H vs I r Q k => by
  cases r with
  | cons r1 r2 => cases r2 with
    | cons r2 r3 =>
      cases r3
      cases r1
      cases r2
      refine ⟨_, _, rfl, ?_⟩
      have e : (if j < i then j else i) = min i j := by
        split <;> omega
      rw [e]
      exact k _ _ m H Go.refl I (.int _) h
theorem cd_intB {b : Bool} (h : P (.int (if b then 1 else 0)) m) : CallD W (fun xs H Q => (∃ i, xs = [.int i] ∧ Q (.int i) H) ∨ ∃ k, xs = [.bl k] ∧ Q (.int (if k then 1 else 0)) H) [.bool b] m P := fun U ρ σ H vs I r Q k => by
  cases r with
  | cons r1 r2 =>
    cases r2
    cases r1
    exact .inr ⟨_, rfl, k _ _ m H Go.refl I (.int _) h⟩
theorem cd_sum {ns : List Int} (h : P (.int ns.sum) m) : CallD W (rSum W.K) [.list (ns.map .int)] m P := fun U ρ σ H vs I r Q k => by
  cases r with
  | cons r1 r2 =>
    cases r2
    cases r1 with
    | lst n1 h1 a1 =>
      have e := a1.ints
      subst e
      exact ⟨_, ns, rfl, .inl (.inl h1), k _ _ m H Go.refl I (.int _) h⟩
theorem cd_all {bs : List Bool} (h : P (.bool (bs.all id)) m) : CallD W (rAll W.K) [.list (bs.map .bool)] m P := fun U ρ σ H vs I r Q k => by
  cases r with
  | cons r1 r2 =>
    cases r2
    cases r1 with
    | lst n1 h1 a1 =>
      have e := a1.bools
      subst e
      exact ⟨_, bs, rfl, .inl (.inl h1), k _ _ m H Go.refl I (.bl _) h⟩
theorem cd_any {bs : List Bool} (h : P (.bool (bs.any id)) m) : CallD W (rAny W.K) [.list (bs.map .bool)] m P := fun U ρ σ H vs I r Q k => by
  cases r with
  | cons r1 r2 =>
    cases r2
    cases r1 with
    | lst n1 h1 a1 =>
      have e := a1.bools
      subst e
      exact ⟨_, bs, rfl, .inl (.inl h1), k _ _ m H Go.refl I (.bl _) h⟩
/-- tuple(xs) -/
abbrev rTupOf (K : PySem.W.Frag) : List V → Hp → VK → Prop := fun xs H Q => ∃ p ys, xs = [.ref p] ∧ ((SqL K H p ys ∧ ∀ l, H l = none → Q (.ref l) (upd H l (.tup ys))) ∨ (SqT K H p ys ∧ Q (.ref p) H))
theorem cd_tupL {xs : List D} (h : P (.tuple xs) m) : CallD W (rTupOf W.K) [.list xs] m P := fun U ρ σ H vs I r Q k => by
  cases r with
  | cons r1 r2 =>
    cases r2
    cases r1 with
    | lst n1 h1 a1 => exact ⟨_, _, rfl, .inl ⟨.inl (.inl h1), fun p hp => k_tup I hp a1 k h⟩⟩
theorem cd_tupT {xs : List D} (h : P (.tuple xs) m) : CallD W (rTupOf W.K) [.tuple xs] m P := fun U ρ σ H vs I r Q k => by
  cases r with
  | cons r1 r2 =>
    cases r2
    cases r1 with
    | tup h1 a1 => exact ⟨_, _, rfl, .inr ⟨h1, k _ _ m H Go.refl I (.tup h1 a1) h⟩⟩
theorem cd_tupM {n : Nat} {l : Addr} {xs : List D} (hm : m[n]? = some (l, .lst xs)) (h : P (.tuple xs) m) : CallD W (rTupOf W.K) [ob l] m P := fun U ρ σ H vs I r Q k => by
  cases r with
  | cons r1 r2 =>
    cases r2
    have z := ob_inv r1
    subst z
    obtain ⟨_, _, ys, hl, a⟩ := I.at_ hm
    exact ⟨_, _, rfl, .inl ⟨.inl (.inl hl), fun p hp => k_tup I hp a k h⟩⟩
/-- list(xs) -/
abbrev rListOf (K : PySem.W.Frag) : List V → Hp → VK → Prop := fun xs H Q => ∃ p ys, xs = [.ref p] ∧ (SqL K H p ys ∨ SqT K H p ys) ∧ ∀ l, H l = none → Q (.ref l) (upd H l (.lst ys))
theorem cl_listT {xs : List D} {P : List D → M → Prop} (h : P xs m) : CallDL W (rListOf W.K) [.tuple xs] m P := fun U ρ σ H vs I r Q k => by
  cases r with
  | cons r1 r2 =>
    cases r2
    cases r1 with
    | tup h1 a1 => exact ⟨_, _, rfl, .inr h1, fun p hp => k p xs m _ hp (Go.new hp) (I.lay hp a1) h⟩
theorem cl_listL {xs : List D} {P : List D → M → Prop} (h : P xs m) : CallDL W (rListOf W.K) [.list xs] m P := fun U ρ σ H vs I r Q k => by
  cases r with
  | cons r1 r2 =>
    cases r2
    cases r1 with
    | lst n1 h1 a1 => exact ⟨_, _, rfl, .inl (.inl (.inl h1)), fun p hp => k p xs m _ hp (Go.new hp) (I.lay hp a1) h⟩
/-- list(range(n)) -/
def rgD (a b : Int) : List D := (List.range (b - a).toNat).map fun i => .int (a + (i : Nat))
theorem rg_rp {K : PySem.W.Frag} (a b : Int) : RpAll K U H (rgV a b) (rgD a b) := by
  unfold rgV rgD
  generalize List.range (b - a).toNat = l
  induction l with
  | nil => exact .nil
  | cons x l ih => exact .cons (.int _) ih
def EvR (W : Wd) (t : L2.St → Hp → (Int → Int → Hp → Prop) → Prop) (m : M) (ρ : Names) (P : Int → Int → M → Prop) : Prop :=
  ∀ U σ H, StU W U m ρ σ H → ∀ Q : Int → Int → Hp → Prop, (∀ a b m' H2, Go W m H m' H2 → StU W U m' ρ σ H2 → P a b m' → Q a b H2) → t σ H Q
theorem er_1 {te : TE} {P : Int → Int → M → Prop} (h : Ev W te m ρ fun d m' => ∃ n, d = .int n ∧ P 0 n m') : EvR W (tRg1 te) m ρ P := fun U σ H I Q k =>
  h U σ H I _ fun v d m' H2 g I2 r ⟨n, e, p⟩ => by
    subst e
    cases r
    exact ⟨n, rfl, k _ _ m' H2 g I2 p⟩
theorem el_listRg {t : L2.St → Hp → (Int → Int → Hp → Prop) → Prop} {P : List D → M → Prop} (h : EvR W t m ρ fun a b m' => RgOk a b ∧ P (rgD a b) m') : EvL W (tLstRg t) m ρ P := fun U σ H I Q k =>
  h U σ H I _ fun a b m' H2 g I2 ⟨ok, p⟩ => ⟨ok, fun q hq => k q (rgD a b) m' _ (g.fresh I I2 hq) (g.trans (Go.new hq)) (I2.lay hq (rg_rp a b)) p⟩
theorem ev_tupRg {t : L2.St → Hp → (Int → Int → Hp → Prop) → Prop} {P : PD} (h : EvR W t m ρ fun a b m' => RgOk a b ∧ P (.tuple (rgD a b)) m') : Ev W (tTupRg t) m ρ P := fun U σ H I Q k =>
  h U σ H I _ fun a b m' H2 g I2 ⟨ok, p⟩ => ⟨ok, fun q hq => k _ _ m' _ (g.trans (Go.new hq)) (I2.new hq) (.tup (.inl (.inl upd_same)) (rg_rp a b)) p⟩
/-! ### methods -/
theorem ev_bm {T : String} {r : V → List V → Hp → VK → Prop} {to : TE} {ta : TA} (h : Ev W to m ρ fun d m1 => (∀ U σ H v, StU W U m1 ρ σ H → Rp W.K U H v d → tyV W.K T v H) ∧ EvA W ta m1 ρ fun ds m2 => MtD W r d ds m2 P) : Ev W (tBM W.K T r to ta) m ρ P := fun U σ H I Q k =>
  h U σ H I _ fun v d m1 H1 e1 I1 r1 ⟨ty, p1⟩ => ⟨ty U σ H1 v I1 r1, p1 U σ H1 I1 _ fun vs ds m2 H2 e2 I2 r2 p2 => p2 U ρ σ H2 v vs I2 (r1.go (K := W.K) I1 e2) r2 Q fun z d m' H3 e3 I3 r3 p3 => k z d m' H3 ((e1.trans e2).trans e3) I3 r3 p3⟩
theorem ev_bm0 {T : String} {r : V → List V → Hp → VK → Prop} {to : TE} (h : Ev W to m ρ fun d m1 => (∀ U σ H v, StU W U m1 ρ σ H → Rp W.K U H v d → tyV W.K T v H) ∧ MtD W r d [] m1 P) : Ev W (tBM0 W.K T r to) m ρ P := fun U σ H I Q k =>
  h U σ H I _ fun v d m1 H1 e1 I1 r1 ⟨ty, p1⟩ => ⟨ty U σ H1 v I1 r1, p1 U ρ σ H1 v [] I1 r1 .nil Q fun z d m' H3 e3 I3 r3 p3 => k z d m' H3 (e1.trans e3) I3 r3 p3⟩
theorem ty_M {n : Nat} {l : Addr} {xs : List D} (hm : m[n]? = some (l, .lst xs)) : ∀ U σ H v, StU W U m ρ σ H → Rp W.K U H v (ob l) → tyV W.K "list" v H := fun U σ H v I r => by
  have z := ob_inv r
  subst z
  obtain ⟨_, _, ys, hl, _⟩ := I.at_ hm
  exact .inl ⟨rfl, _, .inl (.inl hl)⟩
theorem perm_at {α : Type} : ∀ {l : List α} {n : Nat} {x : α} (y : α), l[n]? = some x → l.Perm (x :: l.eraseIdx n) ∧ (l.set n y).Perm (y :: l.eraseIdx n)
  | [], n, x, y, h => by simp at h
  | a :: l, 0, x, y, h => by
    have e : a = x := Option.some.inj h
    subst e
    exact ⟨.refl _, .refl _⟩
  | a :: l, n + 1, x, y, h => by
    obtain ⟨h1, h2⟩ := perm_at (l := l) (n := n) (x := x) y (by simpa using h)
    exact ⟨(h1.cons a).trans (.swap _ _ _), (h2.cons a).trans (.swap _ _ _)⟩
/-- a list of ours is changed: entry n -/
theorem StU.setM {n : Nat} {l : Addr} {mo mo' : MO} {o : HO} (I : StU W U m ρ σ H) (hm : m[n]? = some (l, mo)) (ho : Mut (some o)) (at' : MAt W.K U (upd H l o) l mo') :
    StU W U (m.set n (l, mo')) ρ σ (upd H l o) ∧ Go W m H (m.set n (l, mo')) (upd H l o) := by
  obtain ⟨hn, _⟩ := List.getElem?_eq_some_iff.mp hm
  obtain ⟨hp, hp2⟩ := perm_at (l, mo') hm
  have J := (I.perm hp).put ho at'
  refine ⟨J.perm hp2.symm, fun a u h k1 k2 => ?_, ?_⟩
  · rw [upd_ne (fun z => k2 ?_)]
    · exact h
    · rw [z]
      exact List.mem_map.mpr ⟨(l, mo), List.mem_of_getElem? hm, rfl⟩
  · rw [List.map_set]
    refine List.ext_getElem? fun i => ?_
    by_cases hi : n = i
    · subst hi
      rw [List.getElem?_set_self (by simpa using hn), List.getElem?_map, hm]
      rfl
    · rw [List.getElem?_set_ne hi]
theorem StU.setL {n : Nat} {l : Addr} {mo : MO} {xs : List V} {ds : List D} (I : StU W U m ρ σ H) (hm : m[n]? = some (l, mo)) (r : RpAll W.K U H xs ds) :
    StU W U (m.set n (l, .lst ds)) ρ σ (upd H l (.lst xs)) ∧ Go W m H (m.set n (l, .lst ds)) (upd H l (.lst xs)) :=
  I.setM hm trivial (show MAt W.K U (upd H l (.lst xs)) l (.lst ds) from ⟨xs, upd_same, r.mono I.uok (ExU.put (I.at_ hm).1)⟩)
theorem md_append {n : Nat} {l : Addr} {xs : List D} (hm : m[n]? = some (l, .lst xs)) (hl : xs.length < sizeLine) (h : P .none (m.set n (l, .lst (xs ++ [d])))) : MtD W rAppend (ob l) [d] m P := fun U ρ σ H v vs I r rs Q k => by
  cases rs with
  | cons r1 r2 =>
    cases r2
    have z := ob_inv r
    subst z
    obtain ⟨hu, hs, ys, hy, a⟩ := I.at_ hm
    have ex : ∀ o, ExU U H (upd H l o) := fun o => ExU.put hu
    obtain ⟨J, g⟩ := I.setL hm (a.append (.cons r1 .nil))
    exact ⟨_, _, _, rfl, rfl, hy, by rw [a.length]; exact hl, k _ _ _ _ g J .non h⟩
theorem md_extend {n : Nat} {l : Addr} {xs ys : List D} (hm : m[n]? = some (l, .lst xs)) (hl : xs.length + ys.length ≤ sizeLine) (h : P .none (m.set n (l, .lst (xs ++ ys)))) : MtD W rExtend (ob l) [.list ys] m P := fun U ρ σ H v vs I r rs Q k => by
  cases rs with
  | cons r1 r2 =>
    cases r2
    cases r1 with
    | lst n1 h1 a1 =>
      have z := ob_inv r
      subst z
      obtain ⟨hu, hs, ys, hy, a⟩ := I.at_ hm
      have ex : ∀ o, ExU U H (upd H l o) := fun o => ExU.put hu
      obtain ⟨J, g⟩ := I.setL hm (a.append a1)
      exact ⟨_, _, _, _, rfl, rfl, hy, h1, by rw [a.length, a1.length]; exact hl, k _ _ _ _ g J .non h⟩
theorem md_popAt {n j : Nat} {l : Addr} {xs : List D} {i : Int} (hm : m[n]? = some (l, .lst xs)) (h1 : -(2 ^ 63) ≤ i) (h2 : i < 2 ^ 63) (hj : seqIndex? i xs.length = some j) (hd : xs[j]? = some d) (h : P d (m.set n (l, .lst (xs.eraseIdx j)))) : MtD W rPopAt (ob l) [.int i] m P := fun U ρ σ H v vs I r rs Q k => by
  cases rs with
  | cons r1 r2 =>
    cases r2
    cases r1
    have z := ob_inv r
    subst z
    obtain ⟨hu, hs, ys, hy, a⟩ := I.at_ hm
    have ex : ∀ o, ExU U H (upd H l o) := fun o => ExU.put hu
    obtain ⟨y, ey, ry⟩ := a.get hd
    obtain ⟨J, g⟩ := I.setL hm (a.eraseIdx j)
    exact ⟨_, _, _, _, _, rfl, rfl, hy, h1, h2, by rw [a.length]; exact hj, ey, k _ _ _ _ g J (ry.mono I.uok (ex _)) h⟩
end
end DL

set_option Elab.async false
set_option linter.all false
set_option maxRecDepth 100000
set_option maxHeartbeats 2000000
/-! sorted(t) of a tuple of ints; t.index(i) -/
namespace SrtO
open PySem PyProof.Rows Srt
section
variable {prog : Program} {w : World} {A : Around} {E : Value → Shared → Prop} {s : Shared}
theorem sorted_seq {l : Addr} {T : String} {o : Obj} {vs : List Value} {n : Nat} {ns : List Int} {Q : Value → Shared → Prop} (hT : T = "list" ∨ T = "tuple") (ho : s.heap.get? l = some o) (hc : o.cls = .type T) (hd : o.data = .seq vs.toArray n)
    (hz : vs.length ≤ sizeLine) (hi : IntsAre vs ns)
    (h : ∀ (g h' : Heap) (out : List Value) (e : Nat), (∀ b u, s.heap.get? b = some u → g.get? b = some u) → (∀ b u, g.get? b = some u → h'.get? b = some u) → h'.get? g.objs.size = some (seqObj "list" out.toArray e) → Srtd ltIv out → Stb ltIv out vs → Q (.ref g.objs.size) { s with heap := h' }) :
    wpAny (model prog w) A (call (.builtin "sorted") [.ref l]) Q E s := by
  refine Calls.call_function_entry kind_sorted plain_sorted entry_sorted (args_sorted1 _) ?_
  unfold Builtin.«sorted»
  refine wpAny_bind (m := checkCount "sorted" 1 1 _) (wpAny_pure ?_)
  refine wpAny_bind (wpAny_collect_seq l hT ho hc hd (fun g kp => ?_) (by rw [List.size_toArray]; exact hz))
  have ev : vs.toArray.toList = vs := by simp
  rw [ev]
  refine wpAny_bind (wpAny_newList ?_ hz)
  have hL : (g.push (seqObj "list" vs.toArray 0)).get? g.objs.size = some (seqObj "list" vs.toArray 0) := Heap.get?_push_size _ rfl
  show wpAny _ _ _ _ _ { s with heap := g.push (seqObj "list" vs.toArray 0) }
  refine wpAny_bind (wpAny_holding (wpAny_call_entry slot_list_sort ⟨_, hL, rfl⟩ entry_list_sort (list_sort_ord swo_int hL hz (fun h2 => ints_sortable hi h2) fun out hs hb => ⟨_, rfl, ?_⟩) (args_list_sort _)))
  obtain ⟨e, he⟩ := PyProof.Rows.sortedHeap_at (vs := vs) (out := out.toArray) hL
  refine wpAny_pure ⟨_, rfl, h g _ out e kp (fun b u q => ?_) he hs hb⟩
  have hlt : b < g.objs.size := Heap.lt_size q
  rw [PyProof.Rows.sortedHeap_old (Nat.ne_of_lt hlt) (by rw [size_push']; exact Nat.lt_succ_of_lt hlt)]
  exact Heap.get?_push_of_some _ q
end
end SrtO
namespace DL
open PySem PySem.Spec PyProof.Rows L2
section
variable {X : Cx}
/-- sorted of a list or a tuple of ints -/
def rSortedA (K : PySem.W.Frag) : List V → Hp → VK → Prop := fun vs H Q => ∃ (a : Addr) (ns : List Int), vs = [V.ref a] ∧ (SqL K H a (ns.map V.int) ∨ SqT K H a (ns.map V.int)) ∧
  ∀ (ns' : List Int) (p : Addr), ns'.Perm ns → ns'.Pairwise (· ≤ ·) → H p = none → Q (.ref p) (upd H p (.lst (ns'.map V.int)))
theorem cr_sortedA : CallR X (.builtin "sorted") (rSortedA X.K) := by
  intro pins s σ H vs us Q I r h
  obtain ⟨a, ns, rfl, hs, q⟩ := h
  rw [Vals.ref1 r]
  have main : ∀ (T : String) (o : Obj) (its : List Value) (n : Nat), (T = "list" ∨ T = "tuple") → s.heap.get? a = some o → o.cls = .type T → o.data = .seq its.toArray n → Vals (ns.map V.int) its → (ns.map V.int).length ≤ sizeLine →
      wpAny (model X.prog X.w) X.A (call (.builtin "sorted") [.ref a]) (EP X pins σ Q) X.xe s := fun T o its n hT ho hc hd rv hz => by
    have hi := rv.ints
    refine SrtO.sorted_seq hT ho hc hd (by rw [← rv.length]; exact hz) hi fun g h' out e kp kp2 he h1 h2 => ?_
    obtain ⟨k1, k2, k3⟩ := SrtO.ints_out hi h1 h2
    have I1 : Inv X pins σ H { s with heap := g } := I.kept (t' := s.toks) kp
    have hlen : ((out.map SrtO.iv).map V.int).length ≤ sizeLine := by
      rw [List.length_map, k2.length_eq]
      rw [List.length_map] at hz
      exact hz
    exact ⟨.ref g.objs.size, _, I1.laid (t' := s.toks) (h' := h') (o := .lst ((out.map SrtO.iv).map V.int)) kp2 (Nat.le_refl _) ⟨hlen, out, e, vals_of_ints k1, he⟩, rfl, q _ _ k2 k3 (I1.hok.fresh (Nat.le_refl _))⟩
  rcases hs with hs | hs
  · obtain ⟨its, rv, hl, hz⟩ := I.list hs
    obtain ⟨o, ho, hc, n, hd⟩ := hl.isList
    exact main _ o its n (.inl rfl) ho hc hd rv hz
  · obtain ⟨its, rv, ⟨o, ho, hc, n, hd⟩, hz⟩ := I.tuple hs
    exact main _ o its n (.inr rfl) ho hc hd rv hz
/-- tuple(xs), a list, the new tuple known to its object -/
def rTupN (K : PySem.W.Frag) : List V → Hp → VK → Prop := fun xs H Q => ∃ p ys, xs = [.ref p] ∧ SqL K H p ys ∧ ∀ l o, H l = none → o.dict = none → Q (.ref l) (upd H l (.frz o (.tup ys)))
theorem cr_tupN : CallR X (.type "tuple") (rTupN X.K) := by
  intro pins s σ H xs us Q I r h
  obtain ⟨p, ys, rfl, hq, q⟩ := h
  rw [Vals.ref1 r]
  obtain ⟨its, r', pl, hz⟩ := I.list hq
  refine call_tuple_list pl.isList (fun h' kp => ?_) (by rw [List.size_toArray, ← r'.length]; exact hz)
  have I1 : Inv X pins σ H { s with heap := h' } := I.kept (t' := s.toks) kp
  have I2 := I1.laid (t' := s.toks) (a := h'.objs.size) (h' := h'.push { cls := .type "tuple", data := .seq its.toArray }) (o := .frz { cls := .type "tuple", data := .seq its.toArray } (.tup ys)) (fun b o e => Heap.get?_push_of_some _ e) (Nat.le_refl _)
    (show _ ∧ _ from ⟨Heap.get?_push_size _ rfl, hz, its, r', IsTup.new _ _⟩)
  exact ⟨.ref h'.objs.size, _, I2, rfl, q _ _ (I1.hok.fresh (Nat.le_refl _)) rfl⟩
/-- t.index(y) -/
def rIndexT (K : PySem.W.Frag) : V → List V → Hp → VK → Prop := fun x xs H Q => ∃ (a : Addr) (ys : List V) (y : V) (j : Nat) (z : V), x = V.ref a ∧ xs = [y] ∧ SqT K H a ys ∧ flatV y = true ∧ ys.all flatV = true ∧ ys[j]? = some z ∧ eqV z y = true ∧
  (∀ (m : Nat) (z' : V), m < j → ys[m]? = some z' → eqV z' y = false) ∧ Q (.int (j : Nat)) H
theorem mt_indexT : MtR X "tuple.index" (rIndexT X.K) := by
  intro pins s σ H x xs v us Q I rx rxs h
  obtain ⟨a, ys, y, j, z, rfl, rfl, hs, fy, fys, hz, hzj, hno, q⟩ := h
  cases rx
  cases rxs with
  | cons ry rt =>
    rename_i uy ut
    cases rt
    obtain ⟨its, rv, ⟨⟨cls, dd, data, sl⟩, ho, hc, n, hd⟩, hlen⟩ := I.tuple hs
    simp only at hc hd
    subst hc hd
    obtain ⟨u, hu, ru⟩ := rv.get hz
    obtain ⟨hjl, hje⟩ := List.getElem?_eq_some_iff.mp hu
    have hvl := rv.length
    have hj : j < its.toArray.size := by simpa using hjl
    have hsl := sizeLine_eq
    refine call_meets PySem.F.slot_tuple_index ⟨_, ho, rfl⟩ PySem.F.entry_tuple_index (PySem.F.args_tuple_index_2 _ _)
      (TI.tuple_indexAt a its.toArray n dd sl uy (eqU y) j hj ?_ ?_) ⟨ho, fun u' hu' => mem_eqAt ry fy rv fys u' (by simpa using hu'), ?_⟩
    · have e1 : its.toArray[j] = u := by simpa using hje
      rw [e1, eqU_of ru (flat_at fys hz)]
      exact hzj
    · intro m hm hmj
      have hml : m < its.length := by simpa using hm
      have hmy : m < ys.length := by omega
      have hy' : ys[m]? = some ys[m] := List.getElem?_eq_getElem hmy
      obtain ⟨u2, hu2, ru2⟩ := rv.get hy'
      obtain ⟨_, hme⟩ := List.getElem?_eq_some_iff.mp hu2
      have e1 : its.toArray[m] = u2 := by simpa using hme
      rw [e1, eqU_of ru2 (flat_at fys hy')]
      exact hno m _ hmj hy'
    · exact ⟨.int (j : Nat), H, I.tok _, ⟨_, rfl⟩, q⟩
end
/-! ### sorting ints, plainly -/
def ins1 (x : Int) : List Int → List Int
  | [] => [x]
  | y :: l => if x ≤ y then x :: y :: l else y :: ins1 x l
def srt : List Int → List Int
  | [] => []
  | x :: l => ins1 x (srt l)
theorem ins1_perm (x : Int) : ∀ l : List Int, (ins1 x l).Perm (x :: l)
  | [] => .refl _
  | y :: l => by
    unfold ins1
    split
    · exact .refl _
    · exact ((ins1_perm x l).cons y).trans (.swap _ _ _)
theorem srt_perm : ∀ l : List Int, (srt l).Perm l
  | [] => .refl _
  | x :: l => (ins1_perm x (srt l)).trans ((srt_perm l).cons x)
theorem ins1_sorted (x : Int) : ∀ {l : List Int}, l.Pairwise (· ≤ ·) → (ins1 x l).Pairwise (· ≤ ·)
  | [], _ => List.pairwise_singleton _ _
  | y :: l, h => by
    unfold ins1
    have h0 := h
    rw [List.pairwise_cons] at h
    split
    · rename_i c
      refine List.pairwise_cons.mpr ⟨fun a ha => ?_, h0⟩
      rcases List.mem_cons.mp ha with e | e
      · omega
      · exact Int.le_trans c (h.1 a e)
    · rename_i c
      refine List.pairwise_cons.mpr ⟨fun a ha => ?_, ins1_sorted x h.2⟩
      rcases List.mem_cons.mp ((ins1_perm x l).mem_iff.mp ha) with e | e
      · omega
      · exact h.1 a e
theorem srt_sorted : ∀ l : List Int, (srt l).Pairwise (· ≤ ·)
  | [] => .nil
  | x :: l => ins1_sorted x (srt_sorted l)
theorem sorted_uniq : ∀ {l k : List Int}, l.Perm k → l.Pairwise (· ≤ ·) → k.Pairwise (· ≤ ·) → l = k
  | [], k, h, _, _ => by have := h.length_eq; cases k with
    | nil => rfl
    | cons a b => simp at this
  | x :: l, k, h, h1, h2 => by
    cases k with
    | nil => have := h.length_eq; simp at this
    | cons y k =>
      rw [List.pairwise_cons] at h1 h2
      have a : x ≤ y := by
        rcases List.mem_cons.mp (h.mem_iff.mpr (List.mem_cons_self (a := y) (l := k))) with e | e
        · omega
        · exact h1.1 _ e
      have b : y ≤ x := by
        rcases List.mem_cons.mp (h.mem_iff.mp (List.mem_cons_self (a := x) (l := l))) with e | e
        · omega
        · exact h2.1 _ e
      have e : x = y := by omega
      subst e
      rw [sorted_uniq (h.cons_inv) h1.2 h2.2]
theorem srt_uniq {l k : List Int} (h : l.Perm k) (s : l.Pairwise (· ≤ ·)) : l = srt k := sorted_uniq (h.trans (srt_perm k).symm) s (srt_sorted k)
section
variable {W : Wd} {m : M} {P : PD} {d d1 d2 : D} {U : Addr → Prop} {ρ : Names} {σ : L2.St} {H : Hp}
theorem cl_sortedL {ns : List Int} {P : List D → M → Prop} (h : P ((srt ns).map .int) m) : CallDL W (rSortedA W.K) [.list (ns.map .int)] m P := fun U ρ σ H vs I r Q k => by
  cases r with
  | cons r1 r2 =>
    cases r2
    cases r1 with
    | lst n1 h1 a1 =>
      have e := a1.ints
      subst e
      refine ⟨_, ns, rfl, .inl (.inl (.inl h1)), fun ns' p hp hs hn => ?_⟩
      have e := srt_uniq hp hs
      subst e
      exact k p _ m _ hn (Go.new hn) (I.lay hn (RpAll.of_ints _)) h
theorem cl_sortedT {ns : List Int} {P : List D → M → Prop} (h : P ((srt ns).map .int) m) : CallDL W (rSortedA W.K) [.tuple (ns.map .int)] m P := fun U ρ σ H vs I r Q k => by
  cases r with
  | cons r1 r2 =>
    cases r2
    cases r1 with
    | tup h1 a1 =>
      have e := a1.ints
      subst e
      refine ⟨_, ns, rfl, .inr h1, fun ns' p hp hs hn => ?_⟩
      have e := srt_uniq hp hs
      subst e
      exact k p _ m _ hn (Go.new hn) (I.lay hn (RpAll.of_ints _)) h
theorem cl_sortedM {n : Nat} {l : Addr} {ns : List Int} {P : List D → M → Prop} (hm : m[n]? = some (l, .lst (ns.map .int))) (h : P ((srt ns).map .int) m) : CallDL W (rSortedA W.K) [ob l] m P := fun U ρ σ H vs I r Q k => by
  cases r with
  | cons r1 r2 =>
    cases r2
    have z := ob_inv r1
    subst z
    obtain ⟨_, _, ys, hl, a⟩ := I.at_ hm
    have e := a.ints
    subst e
    refine ⟨_, ns, rfl, .inl (.inl (.inl hl)), fun ns' p hp hs hn => ?_⟩
    have e := srt_uniq hp hs
    subst e
    exact k p _ m _ hn (Go.new hn) (I.lay hn (RpAll.of_ints _)) h
theorem eqV_int (i j : Int) : eqV (V.int i) (V.int j) = (i == j) := rfl
theorem ty_L {xs : List D} : ∀ U σ H v, StU W U m ρ σ H → Rp W.K U H v (.list xs) → tyV W.K "list" v H := fun U σ H v I r => by
  cases r with
  | lst n1 h1 a1 => exact .inl ⟨rfl, _, .inl (.inl h1)⟩
theorem cd_tupN {xs : List D} (h : P (ntup xs) m) : CallD W (rTupN W.K) [.list xs] m P := fun U ρ σ H vs I r Q k => by
  cases r with
  | cons r1 r2 =>
    cases r2
    cases r1 with
    | lst n1 h1 a1 => exact ⟨_, _, rfl, .inl (.inl h1), fun p o hp ho => k _ _ m _ (Go.new hp) (I.new hp) (.ntup ⟨o, upd_same, ho⟩ (a1.mono I.uok (ExU.new hp))) h⟩
end
/-! ### t.m(..), t known to its object -/
section
variable {X : Cx} {o e : Expr} {es : List Expr} {name : Str} {id : String} {apos cpos : Pos} {to te : TE} {t : TA} {r : V → List V → Hp → VK → Prop}
def tBMN (r : V → List V → Hp → VK → Prop) (to : TE) (t : TA) : TE := fun σ H Q => to σ H fun x H1 => (∃ a ys, x = .ref a ∧ FzT H1 a ys) ∧ t σ H1 fun xs H2 => r x xs H2 Q
theorem pe_bmN (slot : Slot "tuple" name id) (hty : typeOf (.builtin id) = pure (.type "method_descriptor")) (hm : MtR X id r) (ho : PE X o to) (ha : PA X (e :: es) t)
    (hbase : attributeBase o name X.env (eval o X.env) = eval o X.env := by rfl)
    (hfew : ((backTo cpos (starEach (e :: es) X.env)).all (fun x => !x.1) && (backToKw cpos (keywordEach [] X.env)).all (fun x => x.1.isSome) && decide ((e :: es).length + ([] : List Keyword).length + (if ([] : List Keyword).isEmpty then 0 else 1) < 30)) = true := by rfl)
    (hline : (apos.endLine == cpos.line) = true := by rfl) (hs : starEach (e :: es) X.env = (false, eval e X.env) :: starEach es X.env := by rfl) (hplain : (backTo cpos (starEach es X.env)).any (·.1) = false := by rfl) :
    PE X (.Call (.Attribute o name apos) (e :: es) [] cpos) (tBMN r to t) := by
  refine ⟨fun pins s σ H Q I h => ?_⟩
  refine wpAny_Call_method_late hbase hfew hline rfl (thn (ho.run pins s σ H _ I h) fun v s1 ⟨x, H1, I1, r1, ⟨a, ys, ex, ob, hf, hd⟩, q1⟩ => ?_)
  subst ex
  cases r1
  have hob : s1.heap.get? a = some ob := (I1.hok a _ hf).1
  obtain ⟨_, _, ⟨o2, ho2, hc2, _⟩, _⟩ := I1.tuple (.inl (.inr ⟨ob, hf⟩))
  rw [hob] at ho2
  cases ho2
  refine ⟨"tuple", id, PySem.F.plainAttrs_tuple, slot, hty, ⟨ob, hob, hc2⟩, fun b e => by cases e; exact ⟨ob, hob, hd⟩, ?_⟩
  have hA := ha.run cpos pins s1 σ H1 _ I1 q1
  rw [hs] at hA ⊢
  refine Calls.callWith_builtin (by show (false || (backTo cpos (starEach es X.env)).any (·.1)) = false; rw [hplain] <;> rfl) (Calls.evalArgs_plain ?_)
  exact thn hA fun us s2 ⟨vs, H2, I2, r2, q2⟩ => hm pins s2 σ H2 (.ref a) vs _ us Q I2 rfl r2 q2
end
section
variable {W : Wd} {m : M} {P : PD} {d d1 d2 : D} {U : Addr → Prop} {ρ : Names} {σ : L2.St} {H : Hp}
theorem ev_bmN {r : V → List V → Hp → VK → Prop} {to : TE} {ta : TA} (h : Ev W to m ρ fun d m1 => ∃ ds, d = ntup ds ∧ EvA W ta m1 ρ fun es m2 => MtD W r (.tuple ds) es m2 P) : Ev W (tBMN r to ta) m ρ P := fun U σ H I Q k =>
  h U σ H I _ fun v d m1 H1 e1 I1 r1 ⟨ds, ed, p1⟩ => by
    subst ed
    obtain ⟨a, ys, ev, hf, _⟩ := nt_inv r1
    refine ⟨⟨a, ys, ev, hf⟩, p1 U σ H1 I1 _ fun vs ds m2 H2 e2 I2 r2 p2 => p2 U ρ σ H2 v vs I2 ((nt_tup r1).go (K := W.K) I1 e2) r2 Q fun z d m' H3 e3 I3 r3 p3 => k z d m' H3 ((e1.trans e2).trans e3) I3 r3 p3⟩
theorem md_indexT {ns : List Int} {i : Int} {j : Nat} (hj : ns[j]? = some i) (hno : ∀ m', m' < j → ns[m']? ≠ some i) (h : P (.int j) m) : MtD W (rIndexT W.K) (.tuple (ns.map .int)) [.int i] m P := fun U ρ σ H v vs I r rs Q k => by
  cases rs with
  | cons r1 r2 =>
    cases r2
    cases r1
    cases r with
    | tup h1 a1 =>
      have e := a1.ints
      subst e
      refine ⟨_, _, .int i, j, .int i, rfl, rfl, h1, rfl, flat_ints ns, by rw [List.getElem?_map, hj]; rfl, by rw [eqV_int]; exact beq_self_eq_true i, fun m' z' hm hz => ?_, k _ _ m H Go.refl I (.int _) h⟩
      rw [List.getElem?_map] at hz
      cases e : ns[m']? with
      | none => rw [e] at hz; cases hz
      | some x =>
        rw [e] at hz
        have ez : V.int x = z' := Option.some.inj hz
        subst ez
        rw [eqV_int]
        exact beq_eq_false_iff_ne.mpr fun q => hno m' hm (by rw [e, q])
end
/-! ### what is walked -/
def ItD (W : Wd) (U : Addr → Prop) (H : Hp) (J : It) (ds : List D) : Prop :=
  ∀ U' H', Fut U H U' H' → J.stop ds.length H' ∧ ∀ i d, ds[i]? = some d → J.go i H' ∧ ∀ x H'', J.yld i H' x H'' → (H'' = H' ∧ Rp W.K U' H' x d) ∨ ∃ T xs, H' T = none ∧ H'' = upd H' T (.tup xs) ∧ Rp W.K U' H'' x d
def EvI (W : Wd) (wi : TI) (m : M) (ρ : Names) (P : List D → M → Prop) : Prop :=
  ∀ U σ H, StU W U m ρ σ H → ∀ R : It → Hp → Prop, (∀ J ds m' H2, Go W m H m' H2 → StU W U m' ρ σ H2 → ItD W U H2 J ds → P ds m' → R J H2) → wi σ H R
def iAny (K : PySem.W.Frag) (tl : TE) : TI := fun σ H R => iList K tl σ H R ∨ iTup K tl σ H R
theorem pi_any {X : Cx} {tg l : Expr} {tl : TE} (hl : PE X l tl) : PI X tg l (iAny X.K tl) := by
  have h1 : PI X tg l (iList X.K tl) := pi_list hl
  have h2 : PI X tg l (iTup X.K tl) := pi_tup hl
  exact ⟨fun pins s σ H R I h => h.elim (h1.run pins s σ H R I) (h2.run pins s σ H R I)⟩
section
variable {W : Wd} {m : M} {P : PD} {d d1 d2 : D} {ρ : Names} {PI' : List D → M → Prop}
/-- the list, the tuple that a name or a call hands on -/
theorem itd_step {U : Addr → Prop} {σ : L2.St} {H H2 : Hp} {x : V} (I : StU W U m ρ σ H) (h : (H2 = H ∧ Rp W.K U H x d) ∨ ∃ T xs, H T = none ∧ H2 = upd H T (.tup xs) ∧ Rp W.K U H2 x d) :
    StU W U m ρ σ H2 ∧ Fut U H U H2 ∧ Go W m H m H2 ∧ Rp W.K U H2 x d := by
  rcases h with ⟨e, r⟩ | ⟨T, xs, hT, e, r⟩
  · subst e; exact ⟨I, Fut.refl, Go.refl, r⟩
  · subst e; exact ⟨I.new hT, Fut.of (ExU.new hT), Go.new hT, r⟩
theorem ei_L {tl : TE} (h : Ev W tl m ρ fun d m1 => ∃ ds, d = .list ds ∧ PI' ds m1) : EvI W (iAny W.K tl) m ρ PI' := fun U σ H I R k =>
  .inl (h U σ H I _ fun x d m1 H1 e1 I1 r1 ⟨ds, ed, p⟩ => by
    subst ed
    cases r1 with
    | lst n1 h1 a1 =>
      rename_i a xs
      refine ⟨a, rfl, ⟨xs, .inl (.inl h1)⟩, k _ ds m1 H1 e1 I1 (fun U' H' f => ?_) p⟩
      have h2 : H' a = some (.lst xs) := f.ex a _ h1 n1
      have n2 : ¬ U' a := fun z => (f.nw a z).elim n1 fun q => by rw [h1] at q; cases q
      refine ⟨⟨xs, .inl (.inl h2), by rw [a1.length]; exact Nat.le_refl _⟩, fun i d hi => ?_⟩
      obtain ⟨v, hv, rv⟩ := a1.get hi
      refine ⟨⟨xs, v, .inl (.inl h2), hv⟩, fun x H'' ⟨e, hx⟩ => .inl ⟨e, ?_⟩⟩
      have := hx xs (.inl (.inl h2))
      rw [hv] at this
      cases this
      exact rv.fut I1.uok f)
theorem ei_T {tl : TE} (h : Ev W tl m ρ fun d m1 => ∃ ds, d = .tuple ds ∧ PI' ds m1) : EvI W (iAny W.K tl) m ρ PI' := fun U σ H I R k =>
  .inr (h U σ H I _ fun x d m1 H1 e1 I1 r1 ⟨ds, ed, p⟩ => by
    subst ed
    cases r1 with
    | tup h1 a1 =>
      rename_i a xs
      refine ⟨a, rfl, ⟨xs, h1⟩, k _ ds m1 H1 e1 I1 (fun U' H' f => ?_) p⟩
      have h2 : SqT W.K H' a xs := ex_tup I1.uok f.ex h1
      refine ⟨⟨xs, h2, by rw [a1.length]; exact Nat.le_refl _⟩, fun i d hi => ?_⟩
      obtain ⟨v, hv, rv⟩ := a1.get hi
      refine ⟨⟨xs, v, h2, hv⟩, fun x H'' ⟨e, hx⟩ => .inl ⟨e, ?_⟩⟩
      have := hx xs h2
      rw [hv] at this
      cases this
      exact rv.fut I1.uok f)
theorem ei_rng {W : Wd} {U : Addr → Prop} {H : Hp} {lo : Int} {n : Nat} : ItD W U H (Itr lo n) ((List.range n).map fun i => .int (lo + (i : Nat))) := fun U' H' f => by
  refine ⟨by show n ≤ _; rw [List.length_map, List.length_range]; exact Nat.le_refl _, fun i d hi => ?_⟩
  rw [List.getElem?_map] at hi
  have hlt : i < n := by
    by_cases c : i < n
    · exact c
    · rw [List.getElem?_eq_none (by rw [List.length_range]; omega)] at hi
      cases hi
  rw [List.getElem?_range hlt] at hi
  have e : PyData.int (lo + (i : Nat)) = d := Option.some.inj hi
  subst e
  exact ⟨hlt, fun x H'' ⟨e, hx⟩ => .inl ⟨e, by rw [hx]; exact .int _⟩⟩
/-- a range's numbers -/
def rng (lo : Int) (n : Nat) : List D := (List.range n).map fun i => .int (lo + (i : Nat))
theorem ei_r1 {ta : TA} (h : EvA W ta m ρ fun ds m1 => ∃ j : Int, ds = [.int j] ∧ j < 2 ^ 62 ∧ -(2 ^ 62) ≤ j ∧ PI' (rng 0 j.toNat) m1) : EvI W (iRng1 ta) m ρ PI' := fun U σ H I R k =>
  h U σ H I _ fun vs ds m1 H1 e1 I1 r1 ⟨j, ed, h1, h2, p⟩ => by
    subst ed
    cases r1 with
    | cons ra rb =>
      cases rb
      cases ra
      exact ⟨j, rfl, h2, h1, k _ _ m1 H1 e1 I1 ei_rng p⟩
theorem ei_r2 {ta : TA} (h : EvA W ta m ρ fun ds m1 => ∃ i j : Int, ds = [.int i, .int j] ∧ (-(2 ^ 62) ≤ i ∧ i < 2 ^ 62 ∧ -(2 ^ 62) ≤ j ∧ j < 2 ^ 62) ∧ PI' (rng i (j - i).toNat) m1) : EvI W (iRng2 ta) m ρ PI' := fun U σ H I R k =>
  h U σ H I _ fun vs ds m1 H1 e1 I1 r1 ⟨i, j, ed, h1, p⟩ => by
    subst ed
    cases r1 with
    | cons ra rb =>
      cases rb with
      | cons rb rc =>
        cases rc
        cases ra
        cases rb
        exact ⟨i, j, rfl, h1, k _ _ m1 H1 e1 I1 ei_rng p⟩
/-! ### for -/
variable {D0 : AE}
theorem sv_for {wi : TI} {g : TG} {tb : TS} (h : EvI W wi m ρ fun ds m1 => ∃ I : Nat → M → Names → Prop, I 0 m1 ρ ∧
      (∀ i d m' ρ', ds[i]? = some d → I i m' ρ' → Gv W g d m' ρ' fun m2 ρ2 => Sv W tb m2 ρ2 { nx := Wk (I (i + 1)), rt := D0.rt, bk := D0.nx, ct := Wk (I (i + 1)) }) ∧
      (∀ m' ρ', I ds.length m' ρ' → D0.nx m' ρ')) : Sv W (tFor wi g tb) m ρ D0 := fun U σ H I0 E k =>
  h U σ H I0 _ fun J ds m1 H1 e1 I1 it ⟨Iv, h0, hs, hd⟩ => by
    have f1 : Fut U H U H1 := Fut.of (e1.exU I0)
    refine ⟨fun i mm σ' H' => ∃ U' m' ρ', StU W U' m' ρ' σ' H' ∧ Fut U H1 U' H' ∧ Iv i m' ρ' ∧ i + mm = ds.length, ⟨ds.length, U, m1, ρ, I1, Fut.refl, h0, by omega⟩, fun i mm σ' H' ⟨U', m', ρ', I', f', hI, hn⟩ => ?_⟩
    obtain ⟨hstop, hgo⟩ := it U' H' f'
    by_cases hi : i < ds.length
    · obtain ⟨go, yld⟩ := hgo i _ (List.getElem?_eq_getElem hi)
      refine .inr ⟨go, fun σ2 H2 => ∃ U2 m2 ρ2, StU W U2 m2 ρ2 σ2 H2 ∧ Fut U H1 U2 H2 ∧ Iv (i + 1) m2 ρ2, fun σ2 H2 ⟨U2, m2, ρ2, I2, f2, q⟩ => ⟨mm - 1, by omega, U2, m2, ρ2, I2, f2, q, by omega⟩, fun x H'' hy => ?_⟩
      obtain ⟨I'', fN, _, rx⟩ := itd_step I' (yld x H'' hy)
      have f' := f'.trans fN
      refine hs i _ m' ρ' (List.getElem?_eq_getElem hi) hI U' σ' H'' x I'' rx _ fun ρ2 σ2 I2 q => ?_
      have wk : ∀ U3 m3 ρ3 σ3 H3, Fut U' H'' U3 H3 → StU W U3 m3 ρ3 σ3 H3 → Wk (Iv (i + 1)) m3 ρ3 → ∃ U2 m2 ρ2, StU W U2 m2 ρ2 σ3 H3 ∧ Fut U H1 U2 H3 ∧ Iv (i + 1) m2 ρ2 := fun U3 m3 ρ3 σ3 H3 f3 I3 ⟨m5, m4, ρ4, s4, le4, l4, q4⟩ =>
        ⟨U3, m4, ρ4, ((I3.sub s4).mle le4).less l4, f'.trans f3, q4⟩
      exact q U' σ2 H'' I2 _ ⟨wk, fun U3 m3 ρ3 σ3 v d H3 f3 => k.rt U3 m3 ρ3 σ3 v d H3 ((f1.trans f').trans f3), fun U3 m3 ρ3 σ3 H3 f3 => k.nx U3 m3 ρ3 σ3 H3 ((f1.trans f').trans f3), wk⟩
    · have e : i = ds.length := by omega
      subst e
      exact .inl ⟨hstop, k.nx U' m' ρ' σ' H' (f1.trans f') I' (hd m' ρ' hI)⟩
/-! ### while -/
theorem sv_while {c : TT} {tb : TS} (I : Nat → M → Names → Prop) (n0 : Nat) (h0 : I n0 m ρ)
    (hs : ∀ n m' ρ', I n m' ρ' → EvT W c m' ρ' fun b m1 => if b = true then Sv W tb m1 ρ' { nx := Wk (fun m2 ρ2 => ∃ n', n' < n ∧ I n' m2 ρ2), rt := D0.rt, bk := D0.nx, ct := Wk (fun m2 ρ2 => ∃ n', n' < n ∧ I n' m2 ρ2) } else D0.nx m1 ρ') : Sv W (tWhile c tb) m ρ D0 := fun U σ H I0 E k => by
  refine ⟨fun n σ' H' => ∃ U' m' ρ', StU W U' m' ρ' σ' H' ∧ Fut U H U' H' ∧ I n m' ρ', ⟨n0, U, m, ρ, I0, Fut.refl, h0⟩, fun n σ' H' ⟨U', m', ρ', I', f', hI⟩ => ?_⟩
  refine hs n m' ρ' hI U' σ' H' I' _ fun b m1 H1 e1 I1 p1 => ?_
  have f1 : Fut U H U' H1 := f'.trans (Fut.of (e1.exU I'))
  cases b with
  | false => exact k.nx U' m1 ρ' σ' H1 f1 I1 p1
  | true =>
    refine ⟨fun σ2 H2 => ∃ n', n' < n ∧ ∃ U' m' ρ', StU W U' m' ρ' σ2 H2 ∧ Fut U H U' H2 ∧ I n' m' ρ', fun σ2 H2 q => q, ?_⟩
    have wk : ∀ U3 m3 ρ3 σ3 H3, Fut U' H1 U3 H3 → StU W U3 m3 ρ3 σ3 H3 → Wk (fun m2 ρ2 => ∃ n', n' < n ∧ I n' m2 ρ2) m3 ρ3 → ∃ n', n' < n ∧ ∃ U' m' ρ', StU W U' m' ρ' σ3 H3 ∧ Fut U H U' H3 ∧ I n' m' ρ' := fun U3 m3 ρ3 σ3 H3 f3 I3 ⟨m5, m4, ρ4, s4, le4, l4, n', hn, q4⟩ =>
      ⟨n', hn, U3, m4, ρ4, ((I3.sub s4).mle le4).less l4, f1.trans f3, q4⟩
    exact p1 U' σ' H1 I1 _ ⟨wk, fun U3 m3 ρ3 σ3 v d H3 f3 => k.rt U3 m3 ρ3 σ3 v d H3 (f1.trans f3), fun U3 m3 ρ3 σ3 H3 f3 => k.nx U3 m3 ρ3 σ3 H3 (f1.trans f3), wk⟩
/-! ### comprehensions -/
def wipeD (ρ : Names) : List Nat → Names
  | [] => ρ
  | v :: vs => (wipeD ρ vs).set v none
theorem StU.wipe {U : Addr → Prop} {σ : L2.St} {H : Hp} (I : StU W U m ρ σ H) : ∀ vs : List Nat, StU W U m (wipeD ρ vs) (wipe σ vs) H
  | [] => I
  | v :: vs => (StU.wipe I vs).wipe1 v
theorem wipe_set {j : Nat} {o : Option V} : ∀ {vs : List Nat} {σ : L2.St}, j ∈ vs → wipe (σ.set j o) vs = wipe σ vs
  | [], _, h => by simp at h
  | v :: vs, σ, h => by
    unfold wipe
    by_cases e : j = v
    · subst e
      by_cases hm : j ∈ vs
      · rw [wipe_set hm]
      · have f : ∀ (ws : List Nat) (τ : L2.St), j ∉ ws → wipe (τ.set j o) ws = (wipe τ ws).set j o := by
          intro ws
          induction ws with
          | nil => intro τ _; rfl
          | cons w ws ih =>
            intro τ hw
            rw [List.mem_cons, not_or] at hw
            show (wipe (τ.set j o) ws).set w none = ((wipe τ ws).set w none).set j o
            rw [ih τ hw.2, List.set_comm _ _ hw.1]
        rw [f vs σ hm, List.set_set]
    · have hm : j ∈ vs := (List.mem_cons.mp h).resolve_left e
      rw [wipe_set hm]
theorem wipe_wipe {σ : L2.St} : ∀ vs : List Nat, wipe (wipe σ vs) vs = wipe σ vs
  | [] => rfl
  | v :: vs => by
    show (wipe ((wipe σ vs).set v none) vs).set v none = (wipe σ vs).set v none
    by_cases hm : v ∈ vs
    · rw [wipe_set hm, wipe_wipe vs]
    · have f : ∀ (ws : List Nat) (τ : L2.St), v ∉ ws → wipe (τ.set v none) ws = (wipe τ ws).set v none := by
        intro ws
        induction ws with
        | nil => intro τ _; rfl
        | cons w ws ih =>
          intro τ hw
          rw [List.mem_cons, not_or] at hw
          show (wipe (τ.set v none) ws).set w none = ((wipe τ ws).set w none).set v none
          rw [ih τ hw.2, List.set_comm _ _ hw.1]
      rw [f vs _ hm, List.set_set, wipe_wipe vs]
/-- a target that stores in slots of vs alone -/
def Own (g : TG) (vs : List Nat) : Prop := ∀ (v : V) (σ : L2.St) (H : Hp) (Q : L2.St → Hp → Prop), g v σ H Q → g v σ H fun σ' H' => wipe σ' vs = wipe σ vs ∧ Q σ' H'
def Owns (g : TGs) (vs : List Nat) : Prop := ∀ (v : List V) (σ : L2.St) (H : Hp) (Q : L2.St → Hp → Prop), g v σ H Q → g v σ H fun σ' H' => wipe σ' vs = wipe σ vs ∧ Q σ' H'
/-- what is wanted may be weakened -/
def Mono (g : TG) : Prop := ∀ (v : V) (σ : L2.St) (H : Hp) (Q Q' : L2.St → Hp → Prop), (∀ σ H, Q σ H → Q' σ H) → g v σ H Q → g v σ H Q'
theorem mono_name {j : Nat} : Mono (gName j) := fun v σ H Q Q' k h => k _ _ h
theorem mono_tup2 {K : PySem.W.Frag} {n i j : Nat} : Mono (gTup K n (gCons (gName i) (gCons (gName j) gNil))) := fun v σ H Q Q' k h => by
  obtain ⟨a, xs, e1, e2, e3, x, r, e4, y, s, e5, e6, q⟩ := h
  exact ⟨a, xs, e1, e2, e3, x, r, e4, y, s, e5, e6, k _ _ q⟩
theorem own_name {j : Nat} {vs : List Nat} (h : j ∈ vs) : Own (gName j) vs := fun v σ H Q q => ⟨wipe_set h, q⟩
theorem own_tup2 {K : PySem.W.Frag} {n i j : Nat} {vs : List Nat} (h1 : i ∈ vs) (h2 : j ∈ vs) : Own (gTup K n (gCons (gName i) (gCons (gName j) gNil))) vs := fun v σ H Q h => by
  obtain ⟨a, xs, e1, e2, e3, x, r, e4, y, s, e5, e6, q⟩ := h
  exact ⟨a, xs, e1, e2, e3, x, r, e4, y, s, e5, e6, by rw [wipe_set h2, wipe_set h1], q⟩
theorem el_lc {wi : TI} {g : TG} {tt : TT} {te : TE} {vs : List Nat} {P : List D → M → Prop} (own : Own g vs) (own' : Mono g)
    (h : EvI W wi m ρ fun ds m1 => ds.length ≤ sizeLine ∧ ∃ I : Nat → List D → M → Prop, I 0 [] m1 ∧
      (∀ i d acc m', ds[i]? = some d → I i acc m' → Gv W g d m' (wipeD ρ vs) fun m2 ρ2 => EvT W tt m2 ρ2 fun b m3 => if b = true then Ev W te m3 ρ2 fun y m4 => I (i + 1) (acc ++ [y]) m4 else I (i + 1) acc m3) ∧
      (∀ acc m', I ds.length acc m' → P acc m')) : EvL W (tLc wi g tt te vs) m ρ P := fun U σ H I0 Q k =>
  h U σ H I0 _ fun J ds m1 H1 e1 I1 it ⟨hz, Iv, h0, hs, hd⟩ D hD => by
    have I2 : StU W (more U D) ((D, .lst []) :: m1) ρ σ (upd H1 D (.lst [])) := I1.lay hD .nil
    refine ⟨fun i mm H' => ∃ acc m', StU W (more U D) ((D, .lst acc) :: m') ρ σ H' ∧ Go W ((D, .lst []) :: m1) (upd H1 D (.lst [])) ((D, .lst acc) :: m') H' ∧ Iv i acc m' ∧ acc.length ≤ i ∧ i + mm = ds.length,
      ⟨ds.length, [], m1, I2, Go.refl, h0, Nat.le_refl _, by omega⟩, fun i mm H' ⟨acc, m', I', g', hI, hl, hn⟩ => ?_⟩
    have fut : Fut U H1 (more U D) H' := by
      have a1 : Fut U H1 (more U D) (upd H1 D (.lst [])) := Fut.own hD
      exact a1.trans (Fut.of (g'.exU I2))
    obtain ⟨hstop, hgo⟩ := it (more U D) H' fut
    by_cases hi : i < ds.length
    · obtain ⟨go, yld⟩ := hgo i _ (List.getElem?_eq_getElem hi)
      refine .inr ⟨go, fun H2 => ∃ acc m', StU W (more U D) ((D, .lst acc) :: m') ρ σ H2 ∧ Go W ((D, .lst []) :: m1) (upd H1 D (.lst [])) ((D, .lst acc) :: m') H2 ∧ Iv (i + 1) acc m' ∧ acc.length ≤ i + 1, fun H2 ⟨acc, m', a1, a2, a3, a4⟩ => ⟨mm - 1, by omega, acc, m', a1, a2, a3, a4, by omega⟩, fun x H'' hy => ?_⟩
      obtain ⟨I', _, gN, rx⟩ := itd_step I' (yld x H'' hy)
      have g' := g'.trans gN
      clear gN
      generalize H'' = H' at *
      have J0 : StU W (more U D) m' (wipeD ρ vs) (wipe σ vs) H' := (I'.wipe vs).forget
      have base : g x (wipe σ vs) H' fun σ2 H2 => H2 = H' ∧ ∃ ρ2, StU W (more U D) m' ρ2 σ2 H' ∧ EvT W tt m' ρ2 fun b m3 => if b = true then Ev W te m3 ρ2 fun y m4 => Iv (i + 1) (acc ++ [y]) m4 else Iv (i + 1) acc m3 :=
        hs i _ acc m' (List.getElem?_eq_getElem hi) hI (more U D) (wipe σ vs) H' x J0 rx _ fun ρ2 σ2 I3 q => ⟨rfl, ρ2, I3, q⟩
      refine own' x (wipe σ vs) H' _ _ (fun σ2 H2 ⟨ew, e2, ρ2, I3, q⟩ => ?_) (own x (wipe σ vs) H' _ base)
      rw [e2]
      refine ⟨ew.trans (wipe_wipe vs), ?_⟩
      have I4 : StU W (more U D) ((D, .lst acc) :: m') ρ2 σ2 H' := I'.envs I3.env
      refine (EvT.frame (x := (D, .lst acc)) (PB := fun b M => ∃ m3, M = (D, .lst acc) :: m3 ∧ if b = true then Ev W te m3 ρ2 fun y m4 => Iv (i + 1) (acc ++ [y]) m4 else Iv (i + 1) acc m3) fun U' σ' H0 IA QA kA => q U' σ' H0 IA QA fun b mb Hb gb Ib pb => kA b mb Hb gb Ib ⟨mb, rfl, pb⟩) (more U D) σ2 H' I4 _ fun b M3 H3 g3 I5 ⟨m3, eM, p3⟩ => ?_
      subst eM
      have back : ∀ {m5 : M} {H5 : Hp} {acc5 : List PyData}, Go W ((D, .lst acc) :: m') H' ((D, .lst acc5) :: m5) H5 → StU W (more U D) ((D, .lst acc5) :: m5) ρ2 σ2 H5 → StU W (more U D) ((D, .lst acc5) :: m5) ρ σ H5 ∧ Go W ((D, .lst []) :: m1) (upd H1 D (.lst [])) ((D, .lst acc5) :: m5) H5 := fun g5 I6 =>
        ⟨I6.envs (I'.env.mono I'.uok (g5.exU I')), g'.trans g5⟩
      cases b with
      | false =>
        obtain ⟨b1, b2⟩ := back g3 I5
        exact ⟨acc, m3, b1, b2, p3, by omega⟩
      | true =>
        refine (Ev.frame (x := (D, .lst acc)) (P := fun y M => ∃ m4, M = (D, .lst acc) :: m4 ∧ Iv (i + 1) (acc ++ [y]) m4) fun U' σ' H0 IA QA kA => p3 U' σ' H0 IA QA fun v d md Hd gd Id rd pd => kA v d md Hd gd Id rd ⟨md, rfl, pd⟩) (more U D) σ2 H3 I5 _ fun v d M4 H4 g4 I6 r4 ⟨m4, eM, p4⟩ => ?_
        subst eM
        obtain ⟨_, _, _, xs, hx, ra⟩ := I6.mem (D, .lst acc) List.mem_cons_self
        obtain ⟨I7, g7⟩ := I6.setL (n := 0) (l := D) (mo := .lst acc) rfl (ra.append (.cons r4 .nil))
        obtain ⟨b1, b2⟩ := back ((g3.trans g4).trans g7) I7
        exact ⟨xs, hx, by rw [ra.length]; omega, acc ++ [d], m4, b1, b2, p4, by rw [List.length_append]; simp; omega⟩
    · have e : i = ds.length := by omega
      subst e
      refine .inl ⟨hstop, k D acc m' H' (e1.fresh I0 I1 hD) (e1.trans ⟨fun a o ha n1 n2 => ?_, ?_⟩) I' (hd acc m' hI)⟩
      · have na : a ≠ D := ne_of_none ha hD
        refine g'.ex a o (by rw [upd_ne na]; exact ha) n1 fun z => ?_
        rcases List.mem_cons.mp z with z | z
        · exact na z
        · exact n2 z
      · have := g'.ks
        simpa using this
end
end DL

set_option Elab.async false
set_option linter.all false
set_option maxRecDepth 100000
set_option maxHeartbeats 2000000
namespace DL
open PySem PySem.Spec PyProof.Rows L2

/-! ### promises over data -/
abbrev Pre := (Addr → Prop) → List D → M → PD → Prop
def Fof (S : Addr → Prop) (mc : M) : Addr → Prop := fun a => S a ∨ a ∈ mc.map (·.1)
abbrev wd (K : PySem.W.Frag) (Sok : List V → Prop) (S : Addr → Prop) (mc : M) (H : Hp) (U : Addr → Prop) : Wd := ⟨K, S, Sok, Fof S mc, H, U⟩
/-- pre S ds mc P: called with data ds (mc: the objects of the caller that it changes), what it returns, and what it leaves of mc, is so that P -/
def spD (K : PySem.W.Frag) (Sok : List V → Prop) (n : Nat) (pre : Pre) : Sp := fun vs H Q _ => ∃ (S U : Addr → Prop) (ds : List D) (mc : M) (P : PD),
  ds.length = n ∧ StU (wd K Sok S mc H U) U mc [] [] H ∧ RpAll K U H vs ds ∧ pre S ds mc P ∧
  ∀ (U' : Addr → Prop) (v : V) (d : D) (mc' : M) (H2 : Hp), StU (wd K Sok S mc H U) U' mc' [] [] H2 → mc'.map (·.1) = mc.map (·.1) → Rp K U' H2 v d → P d mc' → Q v H2
/-- data known less -/
def DLe (d d' : D) : Prop := ∀ K U H v, Rp K U H v d → Rp K U H v d'
theorem DLe.refl (d : D) : DLe d d := fun _ _ _ _ h => h
theorem dle_nt (ds : List D) : DLe (ntup ds) (.tuple ds) := fun _ _ _ _ h => nt_tup h
inductive DLeA : List D → List D → Prop
  | nil : DLeA [] []
  | cons {d d' : D} {ds es : List D} : DLe d d' → DLeA ds es → DLeA (d :: ds) (d' :: es)
theorem DLeA.all {ds es : List D} (h : DLeA ds es) : ∀ {K U H vs}, RpAll K U H vs ds → RpAll K U H vs es := by
  induction h with
  | nil => intro K U H vs r; exact r
  | cons a _ ih => intro K U H vs r; cases r with
    | cons x y => exact .cons (a _ _ _ _ x) (ih y)
theorem dle_tup {ds es : List D} (h : DLeA ds es) : DLe (.tuple ds) (.tuple es) := fun _ _ _ _ r => by
  cases r with
  | tup a b => exact .tup a (h.all b)
def Rt (mc : M) (P : PD) : PD := fun d m' => ∃ (d' : D) (m1 mc' : M), DLe d d' ∧ m1.Sublist m' ∧ MLe m1 mc' ∧ mc'.map (·.1) = mc.map (·.1) ∧ P d' mc'
theorem rt_nil {P : PD} {d : D} {m' : M} (h : P d []) : Rt [] P d m' := ⟨d, [], [], DLe.refl d, List.nil_sublist _, .nil, rfl, h⟩
theorem rt_co {P : PD} {d d' : D} {m' : M} (c : DLe d d') (h : P d' []) : Rt [] P d m' := ⟨d', [], [], c, List.nil_sublist _, .nil, rfl, h⟩
theorem spD_len {K : PySem.W.Frag} {Sok : List V → Prop} {n : Nat} {pre : Pre} {vs : List V} {H : Hp} {Q : VK} {E : XK} (h : spD K Sok n pre vs H Q E) : vs.length = n := by
  obtain ⟨S, U, ds, mc, P, hn, _, r, _⟩ := h
  rw [r.length, hn]
/-- the names at the entry -/
def startD (N : List Str) (ds : List D) : Names := ds.map some ++ List.replicate (N.length - ds.length) none
theorem env_start {K : PySem.W.Frag} {U : Addr → Prop} {H : Hp} (k : Nat) : ∀ {vs : List V} {ds : List D}, RpAll K U H vs ds → Env' K U H (vs.map some ++ List.replicate k none) (ds.map some ++ List.replicate k none)
  | _, _, .nil => by
    show Env' K U H (List.replicate k none) (List.replicate k none)
    induction k with
    | zero => exact .nil
    | succ k ih => exact .none ih
  | _, _, .cons h r => .some h (env_start k r)
theorem spD_body {K : PySem.W.Frag} {Sok : List V → Prop} {n : Nat} {pre : Pre} {N : List Str} {t : TS}
    (h : ∀ (S : Addr → Prop) (ds : List D) (mc : M) (P : PD) (H : Hp) (U : Addr → Prop), ds.length = n → pre S ds mc P → Sv (wd K Sok S mc H U) t mc (startD N ds) { nx := fun m' _ => Rt mc P .none m', rt := Rt mc P }) :
    ∀ (vs : List V) (H : Hp) (Q : VK) (E : XK), spD K Sok n pre vs H Q E → t { nx := fun _ H' => Q .non H', rt := Q } (L2.start N vs) H := fun vs H Q E hs => by
  obtain ⟨S, U, ds, mc, P, hn, I, r, hp, k⟩ := hs
  have hl := r.length
  have I2 : StU (wd K Sok S mc H U) U mc (startD N ds) (L2.start N vs) H := I.envs (by
    unfold startD L2.start
    rw [hl]
    exact env_start _ r)
  refine h S ds mc P H U hn hp U (L2.start N vs) H I2 _ ⟨fun U' m' ρ' σ' H' f I' ⟨d', m1, mc', c', s', le', e', p'⟩ => ?_, fun U' m' ρ' σ' v d H' f I' rv ⟨d', m1, mc', c', s', le', e', p'⟩ => ?_, fun _ _ _ _ _ _ _ z => z.elim, fun _ _ _ _ _ _ _ z => z.elim⟩
  · exact k U' .non d' mc' H' (((I'.sub s').mle le').envs .nil) e' (c' _ _ _ _ .non) p'
  · exact k U' v d' mc' H' (((I'.sub s').mle le').envs .nil) e' (c' _ _ _ _ rv) p'
section
variable {W : Wd} {m : M} {P : PD} {d : D} {ρ : Names} {ta : TA}
theorem call_in {U : Addr → Prop} {σ : L2.St} {H : Hp} {mc mr : M} (I : StU W U (mc ++ mr) ρ σ H) : StU (wd W.K W.Sok W.S mc H U) U mc [] [] H :=
  ⟨I.uok, I.ut, fun a h => by
    rcases h with h | h
    · exact I.fu a (I.sf a h)
    · obtain ⟨q, hq, e⟩ := List.mem_map.mp h
      have k : U q.1 := (I.mem q (List.mem_append_left _ hq)).1
      have e : q.1 = a := e
      rw [e] at k
      exact k, I.str, fun _ h => h, fun _ h => .inl h, fun _ _ h _ => h, fun _ h => .inl h, fun p hp => by
    obtain ⟨a, b, _, c⟩ := I.mem p (List.mem_append_left _ hp)
    exact ⟨a, b, .inr (.inr (List.mem_map.mpr ⟨p, hp, rfl⟩)), c⟩, by
    have := I.nd
    rw [List.map_append] at this
    exact (List.nodup_append.mp this).1, .nil⟩
theorem call_out {U U' : Addr → Prop} {σ : L2.St} {H H2 : Hp} {mc mc' mr : M} (I : StU W U (mc ++ mr) ρ σ H) (J : StU (wd W.K W.Sok W.S mc H U) U' mc' [] [] H2) (e : mc'.map (·.1) = mc.map (·.1)) :
    StU W U (mc' ++ mr) ρ σ H2 ∧ Go W (mc ++ mr) H (mc' ++ mr) H2 := by
  have g : Go W (mc ++ mr) H (mc' ++ mr) H2 := ⟨fun a o h n k => J.e0 a o h fun z => by
    rcases z with z | z
    · exact n z
    · exact k (by rw [List.map_append]; exact List.mem_append_left _ z), by rw [List.map_append, List.map_append, e]⟩
  have ex := g.exU I
  have nd := I.nd
  refine ⟨⟨fun a o h q => J.uok a o (J.u0 a h) q, fun a h => J.ut a (J.u0 a h), I.fu, J.str, I.u0, I.un, fun a o h n => ?_, I.sf, fun p hp => ?_, ?_, I.env.mono I.uok ex⟩, g⟩
  · refine J.e0 a o (I.e0 a o h n) fun z => ?_
    rcases z with z | z
    · exact n (I.sf a z)
    · obtain ⟨q, hq, eq⟩ := List.mem_map.mp z
      obtain ⟨_, _, c, _⟩ := I.mem q (List.mem_append_left _ hq)
      have eq : q.1 = a := eq
      rw [eq] at c
      rcases c with c | c
      · rw [c] at h; cases h
      · exact n c
  · rcases List.mem_append.mp hp with hp | hp
    · have hk : p.1 ∈ mc.map (·.1) := by rw [← e]; exact List.mem_map.mpr ⟨p, hp, rfl⟩
      obtain ⟨q, hq, eq⟩ := List.mem_map.mp hk
      obtain ⟨a, b, c, _⟩ := I.mem q (List.mem_append_left _ hq)
      have eq : q.1 = p.1 := eq
      rw [eq] at a b c
      obtain ⟨_, _, _, z⟩ := J.mem p hp
      exact ⟨a, b, c, z.weak fun x h => J.u0 x h⟩
    · obtain ⟨a, b, c, z⟩ := I.mem p (List.mem_append_right _ hp)
      refine ⟨a, b, c, z.mono I.uok ex ?_⟩
      have := I.ut p.1 a
      cases q : H p.1 with
      | none => exact absurd q this
      | some o =>
        refine J.e0 p.1 o q fun y => ?_
        rcases y with y | y
        · exact b y
        · rw [List.map_append] at nd
          exact (List.nodup_append.mp nd).2.2 _ y _ (List.mem_map.mpr ⟨p, hp, rfl⟩) rfl
  · rw [List.map_append, e, ← List.map_append]
    exact nd
theorem ev_callM {n : Nat} {pre : Pre} {E : XK} (h : EvA W ta m ρ fun ds m1 => ∃ mc mr, m1 = mc ++ mr ∧ ds.length = n ∧ pre W.S ds mc fun d mc' => P d (mc' ++ mr)) : Ev W (tCall (spD W.K W.Sok n pre) [] E ta) m ρ P := fun U σ H I Q k =>
  h U σ H I _ fun vs ds m1 H1 e1 I1 r1 ⟨mc, mr, em, hn, p1⟩ => by
    subst em
    rw [List.append_nil]
    refine ⟨W.S, U, ds, mc, _, hn, call_in I1, r1, p1, fun U' v d mc' H2 J e rv q => ?_⟩
    obtain ⟨J2, g⟩ := call_out I1 J e
    exact k v d _ H2 (e1.trans g) J2 (rv.weak J.u0) q
theorem ev_call {n : Nat} {pre : Pre} {E : XK} (h : EvA W ta m ρ fun ds m1 => ds.length = n ∧ pre W.S ds [] fun d mc' => P d (mc' ++ m1)) : Ev W (tCall (spD W.K W.Sok n pre) [] E ta) m ρ P :=
  ev_callM fun U σ H I Q k => h U σ H I Q fun vs ds m' H2 g J r ⟨a, b'⟩ => k vs ds m' H2 g J r ⟨[], m', rfl, a, b'⟩
theorem cd_ofL {r : List V → Hp → VK → Prop} {ds : List D} (h : CallDL W r ds m fun es m' => P (.list es) m') : CallD W r ds m P := fun U ρ σ H vs I rv Q k =>
  h U ρ σ H vs I rv Q fun p es m' H2 hp g J q => by
    obtain ⟨_, _, _, xs, h2, r2⟩ := J.mem (p, .lst es) List.mem_cons_self
    exact k _ _ m' H2 g (I.shrink J) (.lst (fun z => I.ut p z hp) h2 (r2.weak fun a h => .inl h)) q
/-! ### isinstance -/
def tyN : D → Option String
  | .none => some "NoneType"
  | .bool _ => some "bool"
  | .int _ => some "int"
  | .str _ => some "str"
  | .list _ => some "list"
  | .tuple _ => some "tuple"
  | .dict _ => none
theorem ty_of {K : PySem.W.Frag} {U : Addr → Prop} {H : Hp} {v : V} {d : D} {n : String} (r : Rp K U H v d) (h : tyN d = some n) : TyX K H v (.type n) := by
  cases r with
  | non => cases h; exact .base .non
  | bl b => cases h; exact .base (.bl b)
  | int i => cases h; exact .base (.int i)
  | str x => cases h; exact .base (.str x)
  | lst n1 h1 a1 => cases h; exact .base (.lst h1)
  | tup h1 a1 =>
    cases h
    rcases h1 with (h1 | ⟨o, h1⟩) | ⟨o, its, n, h1, h2, _⟩
    · exact .base (.tup h1)
    · exact .fTuple h1
    · exact .kTuple h1 h2
  | ob a => cases h
  | scr h1 => cases h
  | ty n => cases h
  | ntup h1 a1 => cases h
theorem ofString_inj {a b : String} (h : Str.ofString a = Str.ofString b) : a = b := by
  rw [Str.ofString_eq_toList, Str.ofString_eq_toList] at h
  injection h with h
  have h2 : a.toList.map Char.toNat = b.toList.map Char.toNat := by simpa using h
  have h3 : a.toList = b.toList := by
    have f : ∀ l1 l2 : List Char, l1.map Char.toNat = l2.map Char.toNat → l1 = l2 := by
      intro l1
      induction l1 with
      | nil => intro l2 h; cases l2 with
        | nil => rfl
        | cons a b => simp at h
      | cons x l1 ih => intro l2 h; cases l2 with
        | nil => simp at h
        | cons a b =>
          rw [List.map_cons, List.map_cons] at h
          injection h with h1 h2
          rw [Char.toNat_inj.mp h1, ih b h2]
    exact f _ _ h2
  exact String.toList_inj.mp h3
theorem cd_isi {n c : String} {b : Bool} (ht : tyN d = some n) (hk : kitB n c = some b) (h : P (.bool b) m) : CallD W (rIsi W.K) [d, tyD c] m P := fun U ρ σ H vs I r Q k => by
  cases r with
  | cons r1 r2 => cases r2 with
    | cons r2 r3 =>
      cases r3
      generalize hz : tyD c = z at r2
      cases r2 with
      | ty c2 =>
        have e : Str.ofString c = Str.ofString c2 := by simpa [tyD] using hz
        have e2 := ofString_inj e
        subst e2
        exact ⟨_, .ty c, .type n, .type c, b, rfl, .ty c, ty_of r1 ht, kit_ty hk, k _ _ m H Go.refl I (.bl b) h⟩
      | _ => simp [ob, scr, ntup, tyD] at hz
end
end DL

set_option Elab.async false
set_option linter.all false
set_option maxRecDepth 100000
set_option maxHeartbeats 4000000
namespace DL
open PySem PySem.Spec PyProof.Rows L2
section
variable {X : Cx}
/-- set(xs), a list or a tuple of ints -/
def rSetI (w : World) (K : PySem.W.Frag) : List V → Hp → VK → Prop := fun vs H Q => ∃ (a : Addr) (ns : List Int), vs = [V.ref a] ∧ (SqL K H a (ns.map V.int) ∨ SqT K H a (ns.map V.int)) ∧ ns.length + 1 < scanBound ∧
  ∀ (p : Addr) (c : Nat), H p = none → c ≤ ns.length → Q (.ref p) (upd H p (SetO w p (fun j => decide (j ∈ ns)) c))
theorem cr_setI (hc : X.calm = true) : CallR X (.type "set") (rSetI X.w X.K) := by
  intro pins s σ H vs us Q I r h
  obtain ⟨a, ns, rfl, hs, hb, q⟩ := h
  rw [Vals.ref1 r]
  have fin : ∀ (h' : Heap) (tk c : Nat), SetR X.w h' s.heap.objs.size (fun j => decide (j ∈ ns)) c → c ≤ ns.length → (∀ b o, s.heap.get? b = some o → h'.get? b = some o) → EP X pins σ Q (.ref s.heap.objs.size) { s with heap := h', toks := tk } :=
    fun h' tk c R hcl kp => ⟨.ref s.heap.objs.size, _, I.laid (t' := tk) (h' := h') kp (Nat.le_refl _) (setO_new R), rfl, q _ c (I.hok.fresh (Nat.le_refl _)) hcl⟩
  rcases hs with hs | hs
  · obtain ⟨its, rv, pl, hz⟩ := I.list hs
    exact call_set_lstI ns (I.ok.hd hc) pl.isList (by simpa using rv.ints) hb fin
  · obtain ⟨its, rv, pl, hz⟩ := I.tuple hs
    exact call_set_tupI ns (I.ok.hd hc) pl (by simpa using rv.ints) hb fin
end
/-! ### the ascending list of a list's members -/
def uniq : List Int → List Int
  | [] => []
  | x :: l => if x ∈ uniq l then uniq l else x :: uniq l
theorem uniq_mem {k : Int} : ∀ l : List Int, k ∈ uniq l ↔ k ∈ l
  | [] => Iff.rfl
  | x :: l => by
    unfold uniq
    split
    · rename_i h
      rw [uniq_mem l, List.mem_cons]
      refine ⟨.inr, fun e => ?_⟩
      rcases e with e | e
      · rw [e]; exact (uniq_mem l).mp h
      · exact e
    · rw [List.mem_cons, List.mem_cons, uniq_mem l]
theorem uniq_nodup : ∀ l : List Int, (uniq l).Nodup
  | [] => .nil
  | x :: l => by
    unfold uniq
    split
    · exact uniq_nodup l
    · rename_i h
      exact List.nodup_cons.mpr ⟨h, uniq_nodup l⟩
theorem asc_uniq : ∀ {l k : List Int}, l.Pairwise (· < ·) → k.Pairwise (· < ·) → (∀ x, x ∈ l ↔ x ∈ k) → l = k
  | [], [], _, _, _ => rfl
  | [], y :: k, _, _, h => absurd ((h y).mpr List.mem_cons_self) (by simp)
  | x :: l, [], _, _, h => absurd ((h x).mp List.mem_cons_self) (by simp)
  | x :: l, y :: k, h1, h2, h => by
    rw [List.pairwise_cons] at h1 h2
    have a : x = y := by
      rcases List.mem_cons.mp ((h x).mp List.mem_cons_self) with e | e
      · exact e
      · rcases List.mem_cons.mp ((h y).mpr List.mem_cons_self) with e2 | e2
        · exact e2.symm
        · have := h1.1 y e2
          have := h2.1 x e
          omega
    subst a
    rw [asc_uniq h1.2 h2.2 fun z => ?_]
    constructor
    · intro hz
      rcases List.mem_cons.mp ((h z).mp (List.mem_cons_of_mem _ hz)) with e | e
      · subst e; have := h1.1 _ hz; omega
      · exact e
    · intro hz
      rcases List.mem_cons.mp ((h z).mpr (List.mem_cons_of_mem _ hz)) with e | e
      · subst e; have := h2.1 _ hz; omega
      · exact e
theorem srt_asc {l : List Int} (h : l.Nodup) : (srt l).Pairwise (· < ·) := by
  have h1 := srt_sorted l
  have h2 : (srt l).Nodup := (srt_perm l).nodup_iff.mpr h
  have := h1.and h2
  exact this.imp fun {a b} ⟨x, y⟩ => by omega
section
variable {W : Wd} {m : M} {P : PD} {d : D} {ρ : Names} {te : TE} {w : World}
/-- sorted(set(xs)) -/
theorem el_sortedSet {P : List D → M → Prop} (h : Ev W te m ρ fun d m' => ∃ ns : List Int, (d = .list (ns.map .int) ∨ d = .tuple (ns.map .int)) ∧ ns.length < 64 ∧ P ((srt (uniq ns)).map .int) m') : EvL W (tCB (rSortedSet w) (tCons (tCB (rSetI w W.K) (tCons te tNil)) tNil)) m ρ P := fun U σ H I Q k =>
  h U σ H I _ fun v d m1 H1 e1 I1 r1 ⟨ns, ed, hl, p⟩ => by
    have hs : ∃ a, v = .ref a ∧ (SqL W.K H1 a (ns.map V.int) ∨ SqT W.K H1 a (ns.map V.int)) := by
      rcases ed with ed | ed
      · subst ed
        cases r1 with
        | lst n1 h1 a1 =>
          have e := a1.ints
          subst e
          exact ⟨_, rfl, .inl (.inl (.inl h1))⟩
      · subst ed
        cases r1 with
        | tup h1 a1 =>
          have e := a1.ints
          subst e
          exact ⟨_, rfl, .inr h1⟩
    obtain ⟨a, rfl, hs⟩ := hs
    refine ⟨a, ns, rfl, hs, by unfold scanBound; omega, fun p0 c hp hc => ?_⟩
    refine ⟨p0, _, c, rfl, upd_same, by omega, fun ns' q h1 h2 h3 hq => ?_⟩
    have e : ns' = srt (uniq ns) := asc_uniq h1 (srt_asc (uniq_nodup ns)) fun x => by
      rw [h2 x, (srt_perm (uniq ns)).mem_iff, uniq_mem]
      exact decide_eq_true_iff
    subst e
    have g1 : Go W m1 H1 m1 (upd H1 p0 (SetO w p0 (fun j => decide (j ∈ ns)) c)) := Go.new hp
    have I2 := I1.new (o := SetO w p0 (fun j => decide (j ∈ ns)) c) hp
    exact k q _ m1 _ ((e1.trans g1).fresh I I2 hq) ((e1.trans g1).trans (Go.new hq)) (I2.lay hq (RpAll.of_ints _)) p
end
end DL

set_option Elab.async false
set_option linter.all false
set_option maxRecDepth 100000
set_option maxHeartbeats 2000000
namespace DL
open PySem PySem.Spec PyProof.Rows L2
/-! ### ints as data -/
abbrev dts (M : List Int) : List D := M.map .int
theorem plain_dts : ∀ M : List Int, plainAll (dts M) = true
  | [] => rfl
  | x :: M => by show (true && plainAll (dts M)) = true; rw [plain_dts M]; rfl
theorem lay_dts : ∀ M : List Int, PyData.canLayAll0 (dts M) = true
  | [] => by simp [PyData.canLayAll0]
  | x :: M => by
    show PyData.canLayAll0 (.int x :: dts M) = true
    rw [PyData.canLayAll0, lay_dts M]
    simp [PyData.canLay0]
theorem depth_dts : ∀ M : List Int, PyData.depthAll (dts M) = 0
  | [] => by simp [PyData.depthAll]
  | x :: M => by
    show PyData.depthAll (.int x :: dts M) = 0
    rw [PyData.depthAll, depth_dts M]
    simp [PyData.depth]
theorem shaped_dtsT (M : List Int) : SeqAt.shaped (.tuple (dts M)) = true := by
  unfold SeqAt.shaped
  rw [PyData.canLay0, lay_dts, PyData.depth, depth_dts]
  rfl
theorem shaped_dtsL (M : List Int) : SeqAt.shaped (.list (dts M)) = true := by
  unfold SeqAt.shaped
  rw [PyData.canLay0, lay_dts, PyData.depth, depth_dts]
  rfl
theorem eqv_all : ∀ M N : List Int, PyData.eqvAll (dts M) (dts N) = decide (M = N)
  | [], [] => by simp [PyData.eqvAll]
  | [], b :: N => by simp [PyData.eqvAll]
  | a :: M, [] => by simp [PyData.eqvAll]
  | a :: M, b :: N => by
    show PyData.eqvAll (.int a :: dts M) (.int b :: dts N) = _
    rw [PyData.eqvAll, eqv_all M N, PyData.eqv]
    by_cases h : a = b
    · subst h; simp
    · simp [h]
theorem eqv_dtsT (M N : List Int) : PyData.eqv (.tuple (dts M)) (.tuple (dts N)) = decide (M = N) := by rw [PyData.eqv, eqv_all]
theorem eqv_dtsL (M N : List Int) : PyData.eqv (.list (dts M)) (.list (dts N)) = decide (M = N) := by rw [PyData.eqv, eqv_all]
theorem od_eqT {W : Wd} {m : M} {P : PD} {M N : List Int} (h : P (.bool (decide (M = N))) m) : OpD W (rEqA W.K) (.tuple (dts M)) (.tuple (dts N)) m P :=
  od_eqD (by show plainAll _ = true; exact plain_dts M) (by show plainAll _ = true; exact plain_dts N) (shaped_dtsT M) (shaped_dtsT N) (by rw [eqv_dtsT]; exact h)
theorem od_neT {W : Wd} {m : M} {P : PD} {M N : List Int} (h : P (.bool (!decide (M = N))) m) : OpD W (rNeA W.K) (.tuple (dts M)) (.tuple (dts N)) m P :=
  od_neD (by show plainAll _ = true; exact plain_dts M) (by show plainAll _ = true; exact plain_dts N) (shaped_dtsT M) (shaped_dtsT N) (by rw [eqv_dtsT]; exact h)
theorem od_eqLL {W : Wd} {m : M} {P : PD} {M N : List Int} (h : P (.bool (decide (M = N))) m) : OpD W (rEqA W.K) (.list (dts M)) (.list (dts N)) m P :=
  od_eqD (by show plainAll _ = true; exact plain_dts M) (by show plainAll _ = true; exact plain_dts N) (shaped_dtsL M) (shaped_dtsL N) (by rw [eqv_dtsL]; exact h)
theorem od_neLL {W : Wd} {m : M} {P : PD} {M N : List Int} (h : P (.bool (!decide (M = N))) m) : OpD W (rNeA W.K) (.list (dts M)) (.list (dts N)) m P :=
  od_neD (by show plainAll _ = true; exact plain_dts M) (by show plainAll _ = true; exact plain_dts N) (shaped_dtsL M) (shaped_dtsL N) (by rw [eqv_dtsL]; exact h)
/-! ### short names for the readings -/
abbrev rLenB (K : PySem.W.Frag) : List V → Hp → VK → Prop := fun xs H Q => ∃ x n, xs = [x] ∧ LenV K x H n ∧ Q (.int n) H
abbrev rAbs : List V → Hp → VK → Prop := fun xs H Q => ∃ i, xs = [.int i] ∧ Q (.int (if i < 0 then -i else i)) H
abbrev rMax2 : List V → Hp → VK → Prop := fun xs H Q => ∃ i j, xs = [.int i, .int j] ∧ Q (.int (if j > i then j else i)) H
abbrev rMin2 : List V → Hp → VK → Prop := fun xs H Q => ∃ i j, xs = [.int i, .int j] ∧ Q (.int (if j < i then j else i)) H
abbrev rInt1 : List V → Hp → VK → Prop := fun xs H Q => (∃ i, xs = [.int i] ∧ Q (.int i) H) ∨ ∃ k, xs = [.bl k] ∧ Q (.int (if k then 1 else 0)) H
abbrev rLt : R2 := rI0 fun i j => .bl (decide (i < j))
abbrev rLe : R2 := rI0 fun i j => .bl (decide (i ≤ j))
abbrev rGt : R2 := rI0 fun i j => .bl (decide (j < i))
abbrev rGe : R2 := rI0 fun i j => .bl (decide (j ≤ i))
abbrev rSubI : R2 := rI0 fun i j => .int (i - j)
abbrev rFdiv : R2 := rI CDivW fun i j => .int (i / j)
abbrev rMod : R2 := rI (fun _ j => 0 < j) fun i j => .int (i % j)
abbrev rPow : R2 := rI CPow fun i j => .int (i ^ j.toNat)
abbrev rPowW : R2 := rI (fun i j => 0 ≤ j ∧ (Builtin.Int.intBits i : Int) * j ≤ 2 ^ 27) fun i j => .int (i ^ j.toNat)
abbrev rNeg : V → Hp → VK → Prop := rU fun i => .int (-i)
abbrev rIsN : R2 := fun x y H Q => y = .non ∧ Q (.bl (decide (x = .non))) H
abbrev rNotN : R2 := fun x y H Q => y = .non ∧ Q (.bl (!decide (x = .non))) H
section
variable {W : Wd} {m : M} {P : PD} {d d1 d2 : D} {ρ : Names}
theorem od_isN_non (h : P (.bool true) m) : OpD W rIsN .none .none m P := fun U ρ σ H v w I r1 r2 Q k => by
  cases r1; cases r2
  exact ⟨rfl, k _ _ m H Go.refl I (.bl true) h⟩
theorem od_isN_no {n : String} (hn : tyN d = some n) (hne : n ≠ "NoneType") (h : P (.bool false) m) : OpD W rIsN d .none m P := fun U ρ σ H v w I r1 r2 Q k => by
  cases r2
  have e : decide (v = V.non) = false := by
    cases r1 with
    | non => cases hn; exact absurd rfl hne
    | _ => rfl
  refine ⟨rfl, ?_⟩
  rw [e]
  exact k _ _ m H Go.refl I (.bl false) h
theorem od_notN_non (h : P (.bool false) m) : OpD W rNotN .none .none m P := fun U ρ σ H v w I r1 r2 Q k => by
  cases r1; cases r2
  exact ⟨rfl, k _ _ m H Go.refl I (.bl false) h⟩
theorem od_notN_no {n : String} (hn : tyN d = some n) (hne : n ≠ "NoneType") (h : P (.bool true) m) : OpD W rNotN d .none m P := fun U ρ σ H v w I r1 r2 Q k => by
  cases r2
  have e : decide (v = V.non) = false := by
    cases r1 with
    | non => cases hn; exact absurd rfl hne
    | _ => rfl
  refine ⟨rfl, ?_⟩
  rw [e]
  exact k _ _ m H Go.refl I (.bl true) h
end
theorem sv_aug {W : Wd} {m : M} {ρ : Names} {te : TE} {D0 : AE} {i : Nat} {f : Int → Int → Int} {a : Int} (ha : ρ[i]? = some (some (.int a))) (h : Ev W te m ρ fun d m1 => ∃ b, d = .int b ∧ D0.nx m1 (ρ.set i (some (.int (f a b))))) : Sv W (tAug i te (ipI f)) m ρ D0 := fun U σ H I E k => by
  obtain ⟨v, hv, rv⟩ := I.env.get ha
  cases rv
  refine ⟨_, hv, h U σ H I _ fun x d m1 H1 e1 I1 r1 ⟨b, ed, nx⟩ => ?_⟩
  subst ed
  cases r1
  exact ⟨a, b, rfl, rfl, k.nx U m1 _ _ H1 (Fut.of (e1.exU I)) (I1.set (.int _) i) nx⟩
theorem ite_dec {p A B : Prop} [Decidable p] (h1 : p → A) (h2 : ¬ p → B) : if decide p = true then A else B := by
  by_cases h : p
  · rw [if_pos (decide_eq_true h)]; exact h1 h
  · rw [if_neg (by simpa using h)]; exact h2 h
theorem ite_ndec {p A B : Prop} [Decidable p] (h1 : ¬ p → A) (h2 : p → B) : if (!decide p) = true then A else B := by
  by_cases h : p
  · rw [if_neg (by simp [h])]; exact h2 h
  · rw [if_pos (by simp [h])]; exact h1 h
theorem ite_yes {p A B : Prop} [Decidable p] (hp : p) (h : A) : if decide p = true then A else B := by rw [if_pos (decide_eq_true hp)]; exact h
theorem ite_no {p A B : Prop} [Decidable p] (hp : ¬ p) (h : B) : if decide p = true then A else B := by rw [if_neg (by simpa using hp)]; exact h
theorem ite_nyes {p A B : Prop} [Decidable p] (hp : ¬ p) (h : A) : if (!decide p) = true then A else B := by rw [if_pos (by simp [hp])]; exact h
theorem ite_nno {p A B : Prop} [Decidable p] (hp : p) (h : B) : if (!decide p) = true then A else B := by rw [if_neg (by simp [hp])]; exact h
/-! ### a def keeps its promise: from its derivation and its reading over data -/
theorem cal_mk {P : Program} {w : World} {K : PySem.W.Frag} {mg : Str → Option Value} {base : Heap} {Sok : List V → Prop} {x qual x0 : Str} {params : Arguments} {body : List Stmt} {scope : Scope} {f : Addr} {fd : FuncData} {N ps : List Str} {k : Nat} {pre : Pre} {t : TS}
    (F : FunD K x qual params body scope [] [] f fd) (hm : mg x0 = some (.ref f)) (hb : Binds K fd ps []) (S : FnScope N ps scope) (hn : N.length ≥ ps.length)
    (der : ∀ (cdv : Value) (A : Around) (outer : List Env) (s : Shared) (H : Hp) (E : XK), Room k (A.deeper (envOfC qual scope s.heap.objs.size f cdv)) → PSs (cxOf CX0 P w K mg base N qual scope f cdv A outer s H E).nox body t)
    (pure : ∀ (S : Addr → Prop) (ds : List D) (mc : M) (P : PD) (H : Hp) (U : Addr → Prop), ds.length = ps.length → pre S ds mc P → Sv (wd K Sok S mc H U) t mc (startD N ds) { nx := fun m' _ => Rt mc P .none m', rt := Rt mc P }) :
    C8.Cal P w K mg base (k + 1) x0 (spD K Sok ps.length pre) [] :=
  ⟨f, fd, ps, [], F.ok S (fun vs H Q E h => spD_len h) (fun cdv A outer s H vs Q E hr h => ⟨t, (der cdv A outer s H E hr).nox, spD_body pure vs H Q E h⟩), hm, F.kp, hb, .nil⟩
theorem cal_imp {P : Program} {w : World} {K : PySem.W.Frag} {mg : Str → Option Value} {base : Heap} {k : Nat} {x : Str} {sp sp' : Sp} (c : C8.Cal P w K mg base k x sp []) (h : ∀ vs H Q E, sp' vs H Q E → sp vs H Q E) : C8.Cal P w K mg base k x sp' [] := by
  obtain ⟨f, fd, ps, ds, F, a, b, e, d⟩ := c.ex
  cases d
  exact ⟨f, fd, ps, [], F.imp (fun vs H Q E q => by simpa using h vs H Q E q), a, b, e, .nil⟩
end DL

set_option Elab.async false
set_option linter.all false
set_option maxRecDepth 100000
set_option maxHeartbeats 2000000
namespace DL
open PySem PySem.Spec PyProof.Rows L2
section
variable {W : Wd} {m : M} {P : PD} {d : D} {ρ : Names} {te to ti : TE} {ta : TA} {D0 : AE}
theorem Ev.imp {P' : PD} (h : Ev W te m ρ P') (k : ∀ d m', P' d m' → P d m') : Ev W te m ρ P := fun U σ H I Q q => h U σ H I Q fun v d m' H2 g J r p => q v d m' H2 g J r (k d m' p)
theorem EvT.imp {tt : TT} {PB' PB : Bool → M → Prop} (h : EvT W tt m ρ PB') (k : ∀ d m', PB' d m' → PB d m') : EvT W tt m ρ PB := fun U σ H I Q q => h U σ H I Q fun d m' H2 g J p => q d m' H2 g J (k d m' p)
/-- o[i] = e, o a list of ours -/
theorem sv_asgSub (h : Ev W te m ρ fun d m1 => Ev W to m1 ρ fun d1 m2 => ∃ l, d1 = ob l ∧ Ev W ti m2 ρ fun d2 m3 => ∃ (i : Int) (n j : Nat) (xs : List D), d2 = .int i ∧ m3[n]? = some (l, .lst xs) ∧ ixN xs.length i = some j ∧ D0.nx (m3.set n (l, .lst (xs.set j d))) ρ) :
    Sv W (tAsg te (gSub to ti rSetL)) m ρ D0 := fun U σ H I E k =>
  h U σ H I _ fun v d m1 H1 g1 I1 r1 p1 => p1 U σ H1 I1 _ fun v1 d1 m2 H2 g2 I2 r2 ⟨l, e1, p2⟩ => p2 U σ H2 I2 _ fun v2 d2 m3 H3 g3 I3 r3 ⟨i, n, j, xs, e2, hm, hj, p3⟩ => by
    subst e1 e2
    cases r3
    have z := ob_inv r2
    subst z
    obtain ⟨hu, hs, ys, hy, a⟩ := I3.at_ hm
    obtain ⟨J, g4⟩ := I3.setL hm (a.set ((r1.go (K := W.K) I1 g2).go (K := W.K) I2 g3) j)
    exact ⟨l, ys, i, j, rfl, rfl, hy, by rw [a.length]; exact hj, k.nx U _ _ σ _ (Fut.of ((((g1.trans g2).trans g3).trans g4).exU I)) J p3⟩
/-- return of a new list, which the caller may change -/
theorem sv_retM (h : EvL W te m ρ fun ds m1 => ∀ p : Addr, D0.rt (ob p) ((p, .lst ds) :: m1)) : Sv W (tRet te) m ρ D0 := fun U σ H I E k =>
  h U σ H I _ fun p ds m1 H1 hp e1 J q => k.rt (more U p) _ _ σ _ _ H1 (fut_more I e1 hp) J (.ob p) (q p)
/-- a promise that the list returned is new -/
def spN (K : PySem.W.Frag) (Sok : List V → Prop) (n : Nat) (pre : Pre) : Sp := fun vs H Q _ => ∃ (S U : Addr → Prop) (ds : List D) (mc : M) (P : PD),
  ds.length = n ∧ StU (wd K Sok S mc H U) U mc [] [] H ∧ RpAll K U H vs ds ∧ pre S ds mc P ∧
  ∀ (U' : Addr → Prop) (p : Addr) (es : List D) (mc' : M) (H2 : Hp), H p = none → StU (wd K Sok S mc H U) U' ((p, .lst es) :: mc') [] [] H2 → mc'.map (·.1) = mc.map (·.1) → P (.list es) mc' → Q (.ref p) H2
theorem spN_len {K : PySem.W.Frag} {Sok : List V → Prop} {n : Nat} {pre : Pre} {vs : List V} {H : Hp} {Q : VK} {E : XK} (h : spN K Sok n pre vs H Q E) : vs.length = n := by
  obtain ⟨S, U, ds, mc, P, hn, _, r, _⟩ := h
  rw [r.length, hn]
def RtN (mc : M) (P : PD) : PD := fun d m' => ∃ (p : Addr) (es : List D) (m0 m1 mc' : M), d = ob p ∧ m' = (p, .lst es) :: m0 ∧ m1.Sublist m0 ∧ MLe m1 mc' ∧ mc'.map (·.1) = mc.map (·.1) ∧ P (.list es) mc'
theorem rtN_nil {P : PD} {es : List D} {p : Addr} {m0 : M} (h : P (.list es) []) : RtN [] P (ob p) ((p, .lst es) :: m0) := ⟨p, es, m0, [], [], rfl, rfl, List.nil_sublist _, .nil, rfl, h⟩
theorem spN_body {K : PySem.W.Frag} {Sok : List V → Prop} {n : Nat} {pre : Pre} {N : List Str} {t : TS}
    (h : ∀ (S : Addr → Prop) (ds : List D) (mc : M) (P : PD) (H : Hp) (U : Addr → Prop), ds.length = n → pre S ds mc P → Sv (wd K Sok S mc H U) t mc (startD N ds) { nx := fun m' _ => RtN mc P .none m', rt := RtN mc P }) :
    ∀ (vs : List V) (H : Hp) (Q : VK) (E : XK), spN K Sok n pre vs H Q E → t { nx := fun _ H' => Q .non H', rt := Q } (L2.start N vs) H := fun vs H Q E hs => by
  obtain ⟨S, U, ds, mc, P, hn, I, r, hp, k⟩ := hs
  have hl := r.length
  have I2 : StU (wd K Sok S mc H U) U mc (startD N ds) (L2.start N vs) H := I.envs (by
    unfold startD L2.start
    rw [hl]
    exact env_start _ r)
  refine h S ds mc P H U hn hp U (L2.start N vs) H I2 _ ⟨fun U' m' ρ' σ' H' f I' ⟨p, es, m0, m1, mc', e, _⟩ => ?_, fun U' m' ρ' σ' v d H' f I' rv ⟨p, es, m0, m1, mc', e, em, s', le', e', p'⟩ => ?_, fun _ _ _ _ _ _ _ z => z.elim, fun _ _ _ _ _ _ _ z => z.elim⟩
  · simp [ob] at e
  · subst e em
    have z := ob_inv rv
    subst z
    obtain ⟨a1, a2, a3, a4⟩ := I'.mem (p, .lst es) List.mem_cons_self
    have nd := I'.nd
    rw [List.map_cons, List.nodup_cons] at nd
    have hk : (p, MO.lst es).1 ∉ mc.map (·.1) := fun z => nd.1 ((s'.map (·.1)).subset (by rw [← le'.keys, e']; exact z))
    have hf : H p = none := by
      rcases a3 with a3 | a3
      · exact a3
      · rcases a3 with a3 | a3
        · exact absurd a3 a2
        · exact absurd a3 hk
    refine k U' p es mc' H' hf ?_ e' p'
    exact ((I'.sub (m' := (p, .lst es) :: m1) (s'.cons₂ _)).mle (.cons (fun _ _ _ h => h) le')).envs .nil
theorem el_callM {n : Nat} {pre : Pre} {E : XK} {P : List D → M → Prop} (h : EvA W ta m ρ fun ds m1 => ∃ mc mr, m1 = mc ++ mr ∧ ds.length = n ∧ pre W.S ds mc fun d mc' => ∃ es, d = .list es ∧ P es (mc' ++ mr)) : EvL W (tCall (spN W.K W.Sok n pre) [] E ta) m ρ P := fun U σ H I Q k =>
  h U σ H I _ fun vs ds m1 H1 e1 I1 r1 ⟨mc, mr, em, hn, p1⟩ => by
    subst em
    rw [List.append_nil]
    refine ⟨W.S, U, ds, mc, _, hn, call_in I1, r1, p1, fun U' p es mc' H2 hp J e ⟨es', ee, q⟩ => ?_⟩
    have ee : es = es' := by injection ee
    subst ee
    obtain ⟨b1, b2, b3, b4⟩ := J.mem (p, .lst es) List.mem_cons_self
    obtain ⟨J2, g⟩ := call_out I1 J.forget e
    have up : ∀ a, more U p a → U' a := fun a h => h.elim (J.u0 a) fun z => by rw [z]; exact b1
    have hpU : ¬ U p := fun z => I1.ut p z hp
    have hpF : ¬ W.F p := fun z => hpU (I1.fu p z)
    have h0 : W.H0 p = none := by
      cases q0 : W.H0 p with
      | none => rfl
      | some u =>
        have := I1.e0 p u q0 hpF
        rw [hp] at this; cases this
    refine k p es (mc' ++ mr) H2 (e1.fresh I I1 hp) (e1.trans g) ⟨fun a o h q => J.uok a o (up a h) q, fun a h => J.ut a (up a h), fun a h => .inl (J2.fu a h), J2.str, fun a h => .inl (J2.u0 a h), fun a h => ?_, J2.e0, J2.sf, fun x hx => ?_, ?_, ?_⟩ q
    · rcases h with h | h
      · exact J2.un a h
      · rw [h]; exact .inr h0
    · rcases List.mem_cons.mp hx with rfl | hx
      · exact ⟨.inr rfl, b2, .inl h0, b4.weak up⟩
      · rcases List.mem_append.mp hx with hm | hm
        · have hk : x.1 ∈ mc.map (·.1) := by rw [← e]; exact List.mem_map.mpr ⟨x, hm, rfl⟩
          obtain ⟨a, b, c, _⟩ := J2.mem x hx
          obtain ⟨_, _, _, z⟩ := J.mem x (List.mem_cons_of_mem _ hm)
          exact ⟨.inl a, b, c, z.weak up⟩
        · obtain ⟨a, b, c, z⟩ := I1.mem x (List.mem_append_right _ hm)
          refine ⟨.inl a, b, c, z.fut I1.uok ⟨g.exU I1, fun a h => .inl h, fun a h => h.elim .inl fun e => .inr (by rw [e]; exact hp)⟩ ?_⟩
          have nd := I1.nd
          have := I1.ut x.1 a
          cases q : H1 x.1 with
          | none => exact absurd q this
          | some o =>
            refine J.e0 x.1 o q fun y => ?_
            rcases y with y | y
            · exact b y
            · rw [List.map_append] at nd
              exact (List.nodup_append.mp nd).2.2 _ y _ (List.mem_map.mpr ⟨x, hm, rfl⟩) rfl
    · rw [List.map_cons, List.nodup_cons]
      refine ⟨fun z => ?_, J2.nd⟩
      obtain ⟨x, hx, e9⟩ := List.mem_map.mp z
      have := (J2.mem x hx).1
      have e9 : x.1 = p := e9
      rw [e9] at this
      exact hpU this
    · refine (I1.env.grow hp).mono (fun a o h e => ?_) ((g.exU I1).mono fun a h => .inl h)
      rcases h with h | h
      · exact I1.uok a o h e
      · rw [h, hp] at e; cases e
theorem cal_mkN {P : Program} {w : World} {K : PySem.W.Frag} {mg : Str → Option Value} {base : Heap} {Sok : List V → Prop} {x qual x0 : Str} {params : Arguments} {body : List Stmt} {scope : Scope} {f : Addr} {fd : FuncData} {N ps : List Str} {k : Nat} {pre : Pre} {t : TS}
    (F : FunD K x qual params body scope [] [] f fd) (hm : mg x0 = some (.ref f)) (hb : Binds K fd ps []) (S : FnScope N ps scope) (hn : N.length ≥ ps.length)
    (der : ∀ (cdv : Value) (A : Around) (outer : List Env) (s : Shared) (H : Hp) (E : XK), Room k (A.deeper (envOfC qual scope s.heap.objs.size f cdv)) → PSs (cxOf CX0 P w K mg base N qual scope f cdv A outer s H E).nox body t)
    (pure : ∀ (S : Addr → Prop) (ds : List D) (mc : M) (P : PD) (H : Hp) (U : Addr → Prop), ds.length = ps.length → pre S ds mc P → Sv (wd K Sok S mc H U) t mc (startD N ds) { nx := fun m' _ => RtN mc P .none m', rt := RtN mc P }) :
    C8.Cal P w K mg base (k + 1) x0 (spN K Sok ps.length pre) [] :=
  ⟨f, fd, ps, [], F.ok S (fun vs H Q E h => spN_len h) (fun cdv A outer s H vs Q E hr h => ⟨t, (der cdv A outer s H E hr).nox, spN_body pure vs H Q E h⟩), hm, F.kp, hb, .nil⟩
end
end DL

set_option Elab.async false
set_option linter.all false
set_option maxRecDepth 100000
set_option maxHeartbeats 2000000
/-! ### own classes: readings that do not ask the class's facts again -/
namespace DL
open PySem PySem.Spec PyProof.Rows L2
def tFldC (C : Addr) (ta : TE) (f : Str) : TE := fun σ H Q => ta σ H fun x H1 => ∃ a dx fs v, x = .ref a ∧ H1 a = some (.ins C dx fs) ∧ fs.lookup f = some v ∧ Q v H1
def sFldC (C : Addr) (ta tv : TE) (f : Str) : TS := fun D σ H => tv σ H fun y H1 => ta σ H1 fun x H2 => ∃ a dx fs, x = .ref a ∧ H2 a = some (.ins C dx fs) ∧ fs.length < 1000 ∧
  D.nx σ (upd H2 a (.ins C dx (putF f y fs)))
section
variable {X : Cx} {o e value : Expr} {f : Str} {pos pos' tpos : Pos} {ta tv : TE} {C : Addr}
theorem pe_fldC (c : Cls X.K C) (n : NoAttr X.K C f) (he : PE X e ta) (hb : attributeBase e f X.env (eval e X.env) = eval e X.env) : PE X (.Attribute e f pos) (tFldC C ta f) := by
  refine ⟨fun pins s σ H Q I h => ?_⟩
  refine attr_of hb (thn (he.run pins s σ H _ I h) fun u s1 ⟨x, H1, I1, rx, a, dx, fs, v, ex, ea, l, q⟩ => ?_)
  subst ex
  obtain rfl : u = Value.ref a := rx
  exact getattr_ok I1 ea c n l fun u' s2 I2 ru => ⟨v, H1, I2, ru, q⟩
theorem ps_fldC (c : Cls X.K C) (n : NoAttr X.K C f) (ha : PE X o ta) (hv : PE X value tv) (hs : swapsWith value (some (.Attribute o f pos')) pos.line X.env = pure false) : PS X (.Assign [.Attribute o f pos'] value pos) (sFldC C ta tv f) := by
  refine ⟨fun pins s σ H D I h => ?_⟩
  refine plainObj_wpAny_Assign_Attribute (thn (hv.run pins s σ H _ I h) fun u s1 ⟨y, H1, I1, ry, q⟩ => thn (ha.run pins s1 σ H1 _ I1 q) fun ov s2 ⟨x, H2, I2, rx, a, dx, fs, ex, ea, l, q2⟩ => ?_) hs
  subst ex
  obtain rfl : ov = Value.ref a := rx
  exact setattr_ok I2 ea c n l ry fun s3 I3 => ⟨σ, _, I3, q2⟩
/-- len(o) by an own __len__ -/
def rLenOwn (C : Addr) (sp : Sp) : List V → Hp → VK → Prop := fun vs H Q => ∃ a dx fs, vs = [V.ref a] ∧ H a = some (.ins C dx fs) ∧ sp [V.ref a] H (fun v H' => ∃ n : Int, v = .int n ∧ 0 ≤ n ∧ n < 2 ^ 63 ∧ Q (.int n) H') E0
theorem special_fn {prog : Program} {w : World} {A : Around} {E : Value → Shared → Prop} {s : Shared} {K : PySem.W.Frag} {a C f : Addr} {ox : Obj} {od : Option Obj} {name : Str} {args : List Value} {Q : Option Value → Shared → Prop}
    (X : K.In s.heap) (I : PySem.W.InstAt s.heap a ox C od) (hf : PySem.W.findIn K (.ref C) name = some (some (.ref f))) (ht : PySem.W.isFn K (.ref f) = true)
    (hc : wpAny (model prog w) A (call (.ref f) (.ref a :: args)) (fun v s' => Q (some v) s') E s) : wpAny (model prog w) A (callSpecial? (.ref a) name args) Q E s := by
  unfold callSpecial? specialOf
  refine wpAny_bind (wpAny_bind (I.type.here ((PySem.W.looks_findIn X hf).here ?_)))
  refine wpAny_holding ?_
  unfold bindSpecial
  refine wpAny_bind (wpAny_bind ((PySem.W.looks_typeIn X (beq_iff_eq.mp ht)).here ?_))
  rw [if_pos (by decide)]
  exact wpAny_pure (wpAny_bind (wpAny_mono hc (fun v s' h => wpAny_pure h) fun _ _ z => z))
theorem cr_lenOwn {k j : Nat} {sp : Sp} (c : C8.Met X.prog X.w X.K X.mg X.base k C "__len__" sp []) (hr : Room j X.A) (hk : k + 1 ≤ j) : CallR X (.builtin "len") (rLenOwn C sp) := by
  intro pins s σ H vs us Q I r h
  obtain ⟨a, dx, fs, rfl, ha, hsp⟩ := h
  rw [Vals.ref1 r]
  obtain ⟨f, fd, ps, ds, cl, hm, F, hb, hd⟩ := c.ex
  cases hd
  have hr1 : Room k X.A.in1 := (hr.mono hk).in1
  refine Calls.call_function_entry kind_len plain_len entry_len (args_len1 _) ?_
  unfold Builtin.«len»
  refine wpAny_bind (m := oneArg "len" _) (wpAny_pure ?_)
  obtain ⟨mA, J, _⟩ := ins_get I.hok ha
  obtain ⟨od, J, _⟩ := J.look
  refine wpAny_bind (m := callSpecial? (.ref a) (Str.ofString "__len__")) (special_fn I.kIn J hm.at_ hm.fn ?_)
  have e0 : Env0 X.prog X.w X.K X.mg X.base X.A.in1 X.stack s H := by
    have e := I.env0
    exact ⟨e.frames, e.mod, e.bs, e.bsz, e.funs, e.frf, e.hok, e.bare⟩
  have hl := F.len _ _ _ _ hsp
  have r2 : Vals [V.ref a] [Value.ref a] := .cons rfl .nil
  refine wpAny_call (codeAny_mono (F.run X.A.in1 X.stack s H ⟨[.ref a], []⟩ [.ref a] [.ref a] _ E0 hr1 e0 (by
    have := hb s [.ref a] I.kIn (by simpa using hl)
    simpa using this) r2 hsp) fun r s' hq => ?_)
  cases r with
  | error e => exact ((pass0 : Passes CX0 X E0) pins σ H s e s' I hq)
  | ok fl =>
    cases fl with
    | ret u =>
      obtain ⟨v, H', I3, rv, n, ev, h0, h1, q3⟩ := I.after hq
      subst ev
      obtain ⟨t, rfl⟩ := rv
      refine wpAny_bind (wpAny_holding (wpAny_pure ?_))
      refine wpAny_bind (wpAny_letGo ?_)
      show wpAny _ _ (if n < 0 then _ else _) _ _ _
      rw [if_neg (by omega)]
      show wpAny _ _ (if n ≥ 2 ^ 63 then _ else _) _ _ _
      rw [if_neg (by omega)]
      exact wpAny_bind (wpAny_mkInt (wpAny_pure ⟨_, rfl, ⟨.int n, H', I3.tok _, ⟨_, rfl⟩, q3⟩⟩))
    | next => exact False.elim hq
    | brk => exact False.elim hq
    | cont => exact False.elim hq
end

/-! ### expressions that make objects of ours -/
abbrev PX := D → M → M → Prop
abbrev PreX := (Addr → Prop) → List D → M → PX → Prop
def EvX (W : Wd) (te : TE) (m : M) (ρ : Names) (P : PX) : Prop :=
  ∀ U σ H, StU W U m ρ σ H → ∀ Q : VK, (∀ U' v d nw m' H2, (∀ p ∈ nw, H p.1 = none) → Fut U H U' H2 → m'.map (·.1) = m.map (·.1) → StU W U' (nw ++ m') ρ σ H2 → Rp W.K U' H2 v d → P d nw m' → Q v H2) → te σ H Q
section
variable {W : Wd} {m : M} {P : PD} {d : D} {ρ : Names} {te to ti : TE} {ta : TA} {D0 : AE} {PX' : PX}
theorem evx_of (h : Ev W te m ρ fun d m' => PX' d [] m') : EvX W te m ρ PX' := fun U σ H I Q k =>
  h U σ H I _ fun v d m' H2 g J r p => k U v d [] m' H2 (fun _ h => nomatch h) (Fut.of (g.exU I)) g.ks J r p
theorem evx_ofL (h : EvL W te m ρ fun ds m' => ∀ p, PX' (ob p) [(p, .lst ds)] m') : EvX W te m ρ PX' := fun U σ H I Q k =>
  h U σ H I _ fun p ds m' H2 hp g J q => k (more U p) (.ref p) (ob p) [(p, .lst ds)] m' H2 (fun x hx => by
    rcases List.mem_cons.mp hx with rfl | hx
    · exact hp
    · exact nomatch hx) (fut_more I g hp) g.ks J (.ob p) (q p)
theorem evx_dnew (h : ∀ p, PX' (ob p) [(p, .dK [])] m) : EvX W tDNewK m ρ PX' := fun U σ H I Q k p hp =>
  k (more U p) (.ref p) (ob p) [(p, .dK [])] m _ (fun x hx => by
    rcases List.mem_cons.mp hx with rfl | hx
    · exact hp
    · exact nomatch hx) (Fut.own hp) rfl (I.own hp (by trivial) ⟨[], upd_same, .nil⟩) (.ob p) (h p)
theorem sv_asgX {i : Nat} (h : EvX W te m ρ fun d nw m1 => D0.nx (nw ++ m1) (ρ.set i (some d))) : Sv W (tAsg te (gName i)) m ρ D0 := fun U σ H I E k =>
  h U σ H I _ fun U' v d nw m' H2 _ f _ J r q => k.nx U' _ _ _ H2 f (J.set r i) q
theorem sv_retX (h : EvX W te m ρ fun d nw m1 => D0.rt d (nw ++ m1)) : Sv W (tRet te) m ρ D0 := fun U σ H I E k =>
  h U σ H I _ fun U' v d nw m' H2 _ f _ J r q => k.rt U' _ _ σ v d H2 f J r q
/-- a, b = x, a new object -/
theorem sv_parX {i j : Nat} {te' : TE} (h : Ev W te m ρ fun a m1 => EvX W te' m1 ρ fun b nw m2 => D0.nx (nw ++ m2) ((ρ.set i (some a)).set j (some b))) : Sv W (tPar i j (tCons te (tCons te' tNil))) m ρ D0 := fun U σ H I E k =>
  h U σ H I _ fun v a m1 H1 g I1 r1 q1 => q1 U σ H1 I1 _ fun U' v' b nw m2 H2 _ f ks J r2 q =>
    ⟨_, _, rfl, k.nx U' _ _ _ H2 ((Fut.of (g.exU I)).trans f) ((J.set (r1.fut I1.uok f) i).set r2 j) q⟩
/-! ### fields -/
theorem RpKs.lookup {K : PySem.W.Frag} {U : Addr → Prop} {H : Hp} {f : Str} {d : D} {xs : List (Str × V)} {ds : List (Str × D)} (r : RpKs K U H xs ds) (e : ds.lookup f = some d) : ∃ v, xs.lookup f = some v ∧ Rp K U H v d := by
  induction r with
  | nil => cases e
  | @cons k v vs d' ds r1 _ ih =>
    rw [List.lookup_cons] at e ⊢
    cases q : f == k with
    | true => rw [q] at e; exact ⟨v, rfl, by cases e; exact r1⟩
    | false => rw [q] at e; exact ih e
theorem RpKs.lookupN {K : PySem.W.Frag} {U : Addr → Prop} {H : Hp} {f : Str} {xs : List (Str × V)} {ds : List (Str × D)} (r : RpKs K U H xs ds) (e : ds.lookup f = none) : xs.lookup f = none := by
  induction r with
  | nil => rfl
  | @cons k v vs d' ds r1 _ ih =>
    rw [List.lookup_cons] at e ⊢
    cases q : f == k with
    | true => rw [q] at e; cases e
    | false => rw [q] at e; exact ih e
def putD (f : Str) (v : D) : List (Str × D) → List (Str × D)
  | [] => [(f, v)]
  | (g, x) :: r => if g = f then (g, v) :: r else (g, x) :: putD f v r
theorem RpKs.put {K : PySem.W.Frag} {U : Addr → Prop} {H : Hp} {f : Str} {d : D} {v : V} {xs : List (Str × V)} {ds : List (Str × D)} (r : RpKs K U H xs ds) (rv : Rp K U H v d) : RpKs K U H (putF f v xs) (putD f d ds) := by
  induction r with
  | nil => exact .cons rv .nil
  | @cons k v' vs d' ds r1 r2 ih =>
    unfold putF putD
    by_cases e : k = f
    · rw [if_pos e, if_pos e]; exact .cons rv r2
    · rw [if_neg e, if_neg e]; exact .cons r1 ih
theorem RpKs.len {κ : Type} {K : PySem.W.Frag} {U : Addr → Prop} {H : Hp} {xs : List (κ × V)} {ds : List (κ × D)} (r : RpKs K U H xs ds) : xs.length = ds.length := by
  induction r with
  | nil => rfl
  | cons _ _ ih => rw [List.length_cons, List.length_cons, ih]
theorem RpKs.fut {κ : Type} {K : PySem.W.Frag} {U U' : Addr → Prop} {H H' : Hp} (ok : UOk U H) (f : Fut U H U' H') {xs : List (κ × V)} {ds : List (κ × D)} (r : RpKs K U H xs ds) : RpKs K U' H' xs ds := by
  induction r with
  | nil => exact .nil
  | cons a _ ih => exact .cons (a.fut ok f) ih
theorem ev_fld {C : Addr} {f : Str} (h : Ev W te m ρ fun d m1 => ∃ (l : Addr) (n : Nat) (dx : Addr) (fs : List (Str × D)) (v : D), d = ob l ∧ m1[n]? = some (l, .ins C dx fs) ∧ fs.lookup f = some v ∧ P v m1) : Ev W (tFldC C te f) m ρ P := fun U σ H I Q k =>
  h U σ H I _ fun x d m1 H1 g I1 r ⟨l, n, dx, fs, v, ed, hm, hl, p⟩ => by
    subst ed
    have z := ob_inv r
    subst z
    obtain ⟨_, _, xs, hx, rk⟩ := I1.at_ hm
    obtain ⟨u, hu, ru⟩ := rk.lookup hl
    exact ⟨l, dx, xs, u, rfl, hx, hu, k u v m1 H1 g I1 ru p⟩
/-- o.f = e -/
theorem sv_fld {C : Addr} {f : Str} {tv : TE} (h : Ev W tv m ρ fun y m1 => Ev W to m1 ρ fun d m2 => ∃ (l : Addr) (n : Nat) (dx : Addr) (fs : List (Str × D)), d = ob l ∧ m2[n]? = some (l, .ins C dx fs) ∧ fs.length < 1000 ∧ D0.nx (m2.set n (l, .ins C dx (putD f y fs))) ρ) : Sv W (sFldC C to tv f) m ρ D0 := fun U σ H I E k =>
  h U σ H I _ fun v y m1 H1 g1 I1 r1 p1 => p1 U σ H1 I1 _ fun x d m2 H2 g2 I2 r2 ⟨l, n, dx, fs, ed, hm, hl, q⟩ => by
    subst ed
    have z := ob_inv r2
    subst z
    obtain ⟨hu, _, xs, hx, rk⟩ := I2.at_ hm
    have ex : ∀ o, ExU U H2 (upd H2 l o) := fun o => ExU.put hu
    obtain ⟨J, g3⟩ := I2.setM (mo' := .ins C dx (putD f y fs)) (o := .ins C dx (putF f v xs)) hm trivial ⟨_, upd_same, (rk.put (r1.go (K := W.K) I1 g2)).mono I2.uok (ex _)⟩
    exact ⟨l, dx, xs, rfl, hx, by rw [rk.len]; exact hl, k.nx U _ _ σ _ (Fut.of (((g1.trans g2).trans g3).exU I)) J q⟩
theorem sv_fldX {C : Addr} {f : Str} {tv : TE} (h : EvX W tv m ρ fun y nw m1 => Ev W to (nw ++ m1) ρ fun d m2 => ∃ (l : Addr) (n : Nat) (dx : Addr) (fs : List (Str × D)), d = ob l ∧ m2[n]? = some (l, .ins C dx fs) ∧ fs.length < 1000 ∧ D0.nx (m2.set n (l, .ins C dx (putD f y fs))) ρ) : Sv W (sFldC C to tv f) m ρ D0 := fun U σ H I E k =>
  h U σ H I _ fun U' v y nw m1 H1 _ f1 _ I1 r1 p1 => p1 U' σ H1 I1 _ fun x d m2 H2 g2 I2 r2 ⟨l, n, dx, fs, ed, hm, hl, q⟩ => by
    subst ed
    have z := ob_inv r2
    subst z
    obtain ⟨hu, _, xs, hx, rk⟩ := I2.at_ hm
    have ex : ∀ o, ExU U' H2 (upd H2 l o) := fun o => ExU.put hu
    obtain ⟨J, g3⟩ := I2.setM (mo' := .ins C dx (putD f y fs)) (o := .ins C dx (putF f v xs)) hm trivial ⟨_, upd_same, (rk.put (r1.go (K := W.K) I1 g2)).mono I2.uok (ex _)⟩
    exact ⟨l, dx, xs, rfl, hx, by rw [rk.len]; exact hl, k.nx U' _ _ σ _ (f1.trans (Fut.of ((g2.trans g3).exU I1))) J q⟩
/-! ### methods -/
theorem ev_meth {n : Nat} {pre : Pre} {E : XK} {C : Addr} {x : Str} (h : Ev W te m ρ fun d m0 => ∃ (l : Addr) (i : Nat) (dx : Addr) (fs : List (Str × D)), d = ob l ∧ m0[i]? = some (l, .ins C dx fs) ∧ fs.lookup x = none ∧
    EvA W ta m0 ρ fun ds m1 => ∃ mc mr, m1 = mc ++ mr ∧ (ob l :: ds).length = n ∧ pre W.S (ob l :: ds) mc fun d mc' => P d (mc' ++ mr)) : Ev W (tMeth C x (spD W.K W.Sok n pre) [] E te ta) m ρ P := fun U σ H I Q k =>
  h U σ H I _ fun v0 d0 m0 H0 g0 I0 r0 ⟨l, i, dx, fs, ed, hm, hl, p0⟩ => by
    subst ed
    have z := ob_inv r0
    subst z
    obtain ⟨_, _, xs, hx, rk⟩ := I0.at_ hm
    refine ⟨l, dx, xs, rfl, hx, rk.lookupN hl, p0 U σ H0 I0 _ fun vs ds m1 H1 e1 I1 r1 ⟨mc, mr, em, hn, p1⟩ => ?_⟩
    subst em
    rw [List.append_nil]
    refine ⟨W.S, U, ob l :: ds, mc, _, hn, call_in I1, .cons (.ob l) r1, p1, fun U' v d mc' H2 J e rv q => ?_⟩
    obtain ⟨J2, g⟩ := call_out I1 J e
    exact k v d _ H2 ((g0.trans e1).trans g) J2 (rv.weak J.u0) q
theorem cd_lenOwn {C : Addr} {pre : Pre} {l : Addr} {i : Nat} {dx : Addr} {fs : List (Str × D)} {mc mr : M} (hm : m[i]? = some (l, .ins C dx fs)) (em : m = mc ++ mr)
    (h : pre W.S [ob l] mc fun d mc' => ∃ n : Int, d = .int n ∧ 0 ≤ n ∧ n < 2 ^ 63 ∧ P (.int n) (mc' ++ mr)) : CallD W (rLenOwn C (spD W.K W.Sok 1 pre)) [ob l] m P := fun U ρ σ H vs I r Q k => by
  cases r with
  | cons r1 r2 =>
    cases r2
    have z := ob_inv r1
    subst z
    obtain ⟨_, _, xs, hx, rk⟩ := I.at_ hm
    subst em
    refine ⟨l, dx, xs, rfl, hx, W.S, U, [ob l], mc, _, rfl, call_in I, .cons (.ob l) .nil, h, fun U' v d mc' H2 J e rv ⟨n, ed, h0, h1, q⟩ => ?_⟩
    subst ed
    cases rv
    obtain ⟨J2, g⟩ := call_out I J e
    exact ⟨n, rfl, h0, h1, k _ _ _ H2 g J2 (.int n) q⟩
/-! ### promises of new objects -/
def spX (K : PySem.W.Frag) (Sok : List V → Prop) (n : Nat) (pre : PreX) : Sp := fun vs H Q _ => ∃ (S U : Addr → Prop) (ds : List D) (mc : M) (P : PX),
  ds.length = n ∧ StU (wd K Sok S mc H U) U mc [] [] H ∧ RpAll K U H vs ds ∧ pre S ds mc P ∧
  ∀ (U' : Addr → Prop) (v : V) (d : D) (nw mc' : M) (H2 : Hp), (∀ p ∈ nw, H p.1 = none) → StU (wd K Sok S mc H U) U' (nw ++ mc') [] [] H2 → mc'.map (·.1) = mc.map (·.1) → Rp K U' H2 v d → P d nw mc' → Q v H2
theorem spX_len {K : PySem.W.Frag} {Sok : List V → Prop} {n : Nat} {pre : PreX} {vs : List V} {H : Hp} {Q : VK} {E : XK} (h : spX K Sok n pre vs H Q E) : vs.length = n := by
  obtain ⟨S, U, ds, mc, P, hn, _, r, _⟩ := h
  rw [r.length, hn]
def RtX (mc : M) (P : PX) : PD := fun d m' => ∃ (d' : D) (nw m1 m2 mc' : M), DLe d d' ∧ m2.Sublist m' ∧ m2.Perm (nw ++ m1) ∧ MLe m1 mc' ∧ mc'.map (·.1) = mc.map (·.1) ∧ P d' nw mc'
theorem MLe.pre {m1 mc' : M} (h : MLe m1 mc') : ∀ nw : M, MLe (nw ++ m1) (nw ++ mc')
  | [] => h
  | (a, mo) :: nw => .cons (fun _ _ _ h => h) (MLe.pre h nw)
theorem rtX_fin {K : PySem.W.Frag} {Sok : List V → Prop} {S U U' : Addr → Prop} {mc : M} {H H' : Hp} {ρ' : Names} {σ' : L2.St} {m' : M} {v : V} {d : D} {P : PX} {Q : VK} (I' : StU (wd K Sok S mc H U) U' m' ρ' σ' H') (rv : Rp K U' H' v d) (h : RtX mc P d m')
    (k : ∀ (U' : Addr → Prop) (v : V) (d : D) (nw mc' : M) (H2 : Hp), (∀ p ∈ nw, H p.1 = none) → StU (wd K Sok S mc H U) U' (nw ++ mc') [] [] H2 → mc'.map (·.1) = mc.map (·.1) → Rp K U' H2 v d → P d nw mc' → Q v H2) : Q v H' := by
  obtain ⟨d', nw, m1, m2, mc', c', s', pm, le', e', p'⟩ := h
  have J := (I'.sub s').perm pm
  refine k U' v d' nw mc' H' (fun p hp => ?_) ((J.mle (le'.pre nw)).envs .nil) e' (c' _ _ _ _ rv) p'
  obtain ⟨a1, a2, a3, a4⟩ := J.mem p (List.mem_append_left _ hp)
  have nd := J.nd
  rw [List.map_append] at nd
  have hk : p.1 ∉ mc.map (·.1) := fun z => (List.nodup_append.mp nd).2.2 _ (List.mem_map.mpr ⟨p, hp, rfl⟩) _ (by rw [← le'.keys, e']; exact z) rfl
  rcases a3 with a3 | a3
  · exact a3
  · rcases a3 with a3 | a3
    · exact absurd a3 a2
    · exact absurd a3 hk
theorem spX_body {K : PySem.W.Frag} {Sok : List V → Prop} {n : Nat} {pre : PreX} {N : List Str} {t : TS}
    (h : ∀ (S : Addr → Prop) (ds : List D) (mc : M) (P : PX) (H : Hp) (U : Addr → Prop), ds.length = n → pre S ds mc P → Sv (wd K Sok S mc H U) t mc (startD N ds) { nx := fun m' _ => RtX mc P .none m', rt := RtX mc P }) :
    ∀ (vs : List V) (H : Hp) (Q : VK) (E : XK), spX K Sok n pre vs H Q E → t { nx := fun _ H' => Q .non H', rt := Q } (L2.start N vs) H := fun vs H Q E hs => by
  obtain ⟨S, U, ds, mc, P, hn, I, r, hp, k⟩ := hs
  have hl := r.length
  have I2 : StU (wd K Sok S mc H U) U mc (startD N ds) (L2.start N vs) H := I.envs (by
    unfold startD L2.start
    rw [hl]
    exact env_start _ r)
  refine h S ds mc P H U hn hp U (L2.start N vs) H I2 _ ⟨fun U' m' ρ' σ' H' f I' q => rtX_fin I' .non q k, fun U' m' ρ' σ' v d H' f I' rv q => rtX_fin I' rv q k, fun _ _ _ _ _ _ _ z => z.elim, fun _ _ _ _ _ _ _ z => z.elim⟩
theorem env_fut {K : PySem.W.Frag} {U U' : Addr → Prop} {H H' : Hp} (ok : UOk U H) (f : Fut U H U' H') {σ : L2.St} {ρ : Names} (h : Env' K U H σ ρ) : Env' K U' H' σ ρ := by
  induction h with
  | nil => exact .nil
  | some r _ ih => exact .some (r.fut ok f) ih
  | none _ ih => exact .none ih
theorem callX_out {U U' : Addr → Prop} {σ : L2.St} {H H2 : Hp} {nw mc mc' mr : M} (I : StU W U (mc ++ mr) ρ σ H) (hnw : ∀ p ∈ nw, H p.1 = none) (J : StU (wd W.K W.Sok W.S mc H U) U' (nw ++ mc') [] [] H2) (e : mc'.map (·.1) = mc.map (·.1)) :
    StU W U' (nw ++ (mc' ++ mr)) ρ σ H2 ∧ Fut U H U' H2 := by
  have J1 : StU (wd W.K W.Sok W.S mc H U) U' mc' [] [] H2 := J.sub (List.sublist_append_right nw mc')
  obtain ⟨J2, g⟩ := call_out I J1 e
  have f : Fut U H U' H2 := ⟨g.exU I, J.u0, fun a h => J.un a h⟩
  have fresh0 : ∀ a, H a = none → W.H0 a = none := fun a h => by
    cases q : W.H0 a with
    | none => rfl
    | some u =>
      by_cases hF : W.F a
      · exact absurd h (I.ut a (I.fu a hF))
      · have := I.e0 a u q hF
        rw [h] at this; cases this
  refine ⟨⟨J.uok, J.ut, fun a h => J.u0 a (I.fu a h), J.str, fun a h => J.u0 a (I.u0 a h), fun a h => ?_, J2.e0, J2.sf, fun p hp => ?_, ?_, env_fut I.uok f I.env⟩, f⟩
  · rcases J.un a h with h | h
    · exact I.un a h
    · exact .inr (fresh0 a h)
  · rcases List.mem_append.mp hp with hp | hp
    · obtain ⟨a, b, c, z⟩ := J.mem p (List.mem_append_left _ hp)
      exact ⟨a, b, .inl (fresh0 _ (hnw p hp)), z⟩
    · obtain ⟨a, b, c, _⟩ := J2.mem p hp
      refine ⟨J.u0 _ a, b, c, ?_⟩
      rcases List.mem_append.mp hp with hp | hp
      · exact (J.mem p (List.mem_append_right _ hp)).2.2.2
      · obtain ⟨a', b', c', z⟩ := I.mem p (List.mem_append_right _ hp)
        refine z.fut I.uok f ?_
        have nd := I.nd
        cases q : H p.1 with
        | none => exact absurd q (I.ut p.1 a')
        | some o =>
          refine J.e0 p.1 o q fun y => ?_
          rcases y with y | y
          · exact b' y
          · rw [List.map_append] at nd
            exact (List.nodup_append.mp nd).2.2 _ y _ (List.mem_map.mpr ⟨p, hp, rfl⟩) rfl
  · rw [List.map_append, List.nodup_append]
    refine ⟨?_, J2.nd, fun a ha b hb eab => ?_⟩
    · have := J.nd
      rw [List.map_append] at this
      exact (List.nodup_append.mp this).1
    · obtain ⟨p, hp, e1⟩ := List.mem_map.mp ha
      obtain ⟨q, hq, e2⟩ := List.mem_map.mp hb
      have h1 := hnw p hp
      have h2 := I.ut q.1
      have h3 : U q.1 := by
        rcases List.mem_append.mp hq with hq | hq
        · have hk : q.1 ∈ mc.map (·.1) := by rw [← e]; exact List.mem_map.mpr ⟨q, hq, rfl⟩
          obtain ⟨x, hx, ex⟩ := List.mem_map.mp hk
          have := (I.mem x (List.mem_append_left _ hx)).1
          have ex : x.1 = q.1 := ex
          rw [ex] at this
          exact this
        · exact (I.mem q (List.mem_append_right _ hq)).1
      have e3 : p.1 = q.1 := by rw [show p.1 = a from e1, show q.1 = b from e2]; exact eab
      rw [e3] at h1
      exact h2 h3 h1
theorem evx_call {n : Nat} {pre : PreX} {E : XK} (h : EvA W ta m ρ fun ds m1 => ∃ mc mr, m1 = mc ++ mr ∧ ds.length = n ∧ pre W.S ds mc fun d nw mc' => PX' d nw (mc' ++ mr)) : EvX W (tCall (spX W.K W.Sok n pre) [] E ta) m ρ PX' := fun U σ H I Q k =>
  h U σ H I _ fun vs ds m1 H1 e1 I1 r1 ⟨mc, mr, em, hn, p1⟩ => by
    subst em
    rw [List.append_nil]
    refine ⟨W.S, U, ds, mc, _, hn, call_in I1, r1, p1, fun U' v d nw mc' H2 hnw J e rv q => ?_⟩
    obtain ⟨J2, f⟩ := callX_out I1 hnw J e
    exact k U' v d nw (mc' ++ mr) H2 (fun p hp => e1.fresh I I1 (hnw p hp)) ((Fut.of (e1.exU I)).trans f) (by rw [List.map_append, e, ← List.map_append]; exact e1.ks) J2 rv q
/-- C(..) -/
theorem evx_make {n : Nat} {pre : PreX} {E : XK} {C : Addr} (h : EvA W ta m ρ fun ds m1 => ∃ mc mr, m1 = mc ++ mr ∧ ds.length + 1 = n ∧ ∀ x dx, pre W.S (ob x :: ds) ((x, .ins C dx []) :: mc) fun d nw mc' => d = .none ∧ ∃ o mc2, mc' = (x, o) :: mc2 ∧ PX' (ob x) (nw ++ [(x, o)]) (mc2 ++ mr)) :
    EvX W (tMake C (spX W.K W.Sok n pre) [] E ta) m ρ PX' := fun U σ H I Q k =>
  h U σ H I _ fun vs ds m1 H1 e1 I1 r1 ⟨mc, mr, em, hn, p1⟩ x dx hx hdx ne => by
    subst em
    rw [List.append_nil]
    have I2 : StU W U (mc ++ mr) ρ σ (upd H1 dx (.own x)) := I1.new hdx
    have hx2 : upd H1 dx (.own x) x = none := by rw [upd_ne (Ne.symm ne)]; exact hx
    have I3 : StU W (more U x) ((x, .ins C dx []) :: (mc ++ mr)) ρ σ (upd (upd H1 dx (.own x)) x (.ins C dx [])) := I2.own hx2 (by trivial) ⟨[], upd_same, .nil⟩
    have f3 : Fut U H1 (more U x) (upd (upd H1 dx (.own x)) x (.ins C dx [])) := (Fut.of (ExU.new hdx)).trans (Fut.own hx2)
    refine ⟨W.S, more U x, ob x :: ds, (x, .ins C dx []) :: mc, _, hn, call_in (mr := mr) I3, .cons (.ob x) (r1.fut I1.uok f3), p1 x dx, fun U' v d nw mc' H2 hnw J e rv ⟨ed, o, mc2, em, q⟩ => ?_⟩
    subst ed em
    cases rv
    refine ⟨rfl, ?_⟩
    obtain ⟨J2, f⟩ := callX_out (mr := mr) I3 hnw J e
    have ks : mc2.map (·.1) = mc.map (·.1) := by
      have := e
      rw [List.map_cons, List.map_cons] at this
      injection this
    have back : ∀ a, upd (upd H1 dx (.own x)) x (.ins C dx []) a = none → H1 a = none := fun a ha => by
      by_cases z : a = x
      · rw [z]; exact hx
      · rw [upd_ne z] at ha
        by_cases z2 : a = dx
        · rw [z2]; exact hdx
        · rw [upd_ne z2] at ha; exact ha
    refine k U' (.ref x) (ob x) (nw ++ [(x, o)]) (mc2 ++ mr) H2 (fun p hp => ?_) ((Fut.of (e1.exU I)).trans (f3.trans f)) (by rw [List.map_append, ks, ← List.map_append]; exact e1.ks) ?_ (.ob x) q
    · rcases List.mem_append.mp hp with hp | hp
      · exact e1.fresh I I1 (back _ (hnw p hp))
      · rcases List.mem_cons.mp hp with rfl | hp
        · exact e1.fresh I I1 hx
        · exact nomatch hp
    · rw [List.append_assoc]
      exact J2
theorem cal_mkX {P : Program} {w : World} {K : PySem.W.Frag} {mg : Str → Option Value} {base : Heap} {Sok : List V → Prop} {x qual x0 : Str} {params : Arguments} {body : List Stmt} {scope : Scope} {f : Addr} {fd : FuncData} {N ps : List Str} {k : Nat} {pre : PreX} {t : TS}
    (F : FunD K x qual params body scope [] [] f fd) (hm : mg x0 = some (.ref f)) (hb : Binds K fd ps []) (S : FnScope N ps scope) (hn : N.length ≥ ps.length)
    (der : ∀ (cdv : Value) (A : Around) (outer : List Env) (s : Shared) (H : Hp) (E : XK), Room k (A.deeper (envOfC qual scope s.heap.objs.size f cdv)) → PSs (cxOf CX0 P w K mg base N qual scope f cdv A outer s H E).nox body t)
    (pure : ∀ (S : Addr → Prop) (ds : List D) (mc : M) (P : PX) (H : Hp) (U : Addr → Prop), ds.length = ps.length → pre S ds mc P → Sv (wd K Sok S mc H U) t mc (startD N ds) { nx := fun m' _ => RtX mc P .none m', rt := RtX mc P }) :
    C8.Cal P w K mg base (k + 1) x0 (spX K Sok ps.length pre) [] :=
  ⟨f, fd, ps, [], F.ok S (fun vs H Q E h => spX_len h) (fun cdv A outer s H vs Q E hr h => ⟨t, (der cdv A outer s H E hr).nox, spX_body pure vs H Q E h⟩), hm, F.kp, hb, .nil⟩
theorem met_mk {P : Program} {w : World} {K : PySem.W.Frag} {mg : Str → Option Value} {base : Heap} {Sok : List V → Prop} {x qual m0 : Str} {C : Addr} {params : Arguments} {body : List Stmt} {scope : Scope} {f : Addr} {fd : FuncData} {N ps : List Str} {k : Nat} {pre : Pre} {t : TS}
    (F : FunD K x qual params body scope [] [] f fd) (cl : Cls K C) (me : Meth K C m0 f) (hb : Binds K fd ps []) (S : FnScope N ps scope) (hn : N.length ≥ ps.length)
    (der : ∀ (cdv : Value) (A : Around) (outer : List Env) (s : Shared) (H : Hp) (E : XK), Room k (A.deeper (envOfC qual scope s.heap.objs.size f cdv)) → PSs (cxOf CX0 P w K mg base N qual scope f cdv A outer s H E).nox body t)
    (pure : ∀ (S : Addr → Prop) (ds : List D) (mc : M) (P : PD) (H : Hp) (U : Addr → Prop), ds.length = ps.length → pre S ds mc P → Sv (wd K Sok S mc H U) t mc (startD N ds) { nx := fun m' _ => Rt mc P .none m', rt := Rt mc P }) :
    C8.Met P w K mg base (k + 1) C m0 (spD K Sok ps.length pre) [] :=
  ⟨f, fd, ps, [], cl, me, F.ok S (fun vs H Q E h => spD_len h) (fun cdv A outer s H vs Q E hr h => ⟨t, (der cdv A outer s H E hr).nox, spD_body pure vs H Q E h⟩), hb, .nil⟩
theorem mak_mk {P : Program} {w : World} {K : PySem.W.Frag} {mg : Str → Option Value} {base : Heap} {Sok : List V → Prop} {x qual x0 : Str} {C : Addr} {params : Arguments} {body : List Stmt} {scope : Scope} {f : Addr} {fd : FuncData} {N ps : List Str} {k : Nat} {pre : PreX} {t : TS}
    (F : FunD K x qual params body scope [] [] f fd) (mk : Mk K C f) (hm : mg x0 = some (.ref C)) (hb : Binds K fd ps []) (S : FnScope N ps scope) (hn : N.length ≥ ps.length)
    (der : ∀ (cdv : Value) (A : Around) (outer : List Env) (s : Shared) (H : Hp) (E : XK), Room k (A.deeper (envOfC qual scope s.heap.objs.size f cdv)) → PSs (cxOf CX0 P w K mg base N qual scope f cdv A outer s H E).nox body t)
    (pure : ∀ (S : Addr → Prop) (ds : List D) (mc : M) (P : PX) (H : Hp) (U : Addr → Prop), ds.length = ps.length → pre S ds mc P → Sv (wd K Sok S mc H U) t mc (startD N ds) { nx := fun m' _ => RtX mc P .none m', rt := RtX mc P }) :
    C8.Mak P w K mg base (k + 1) x0 C (spX K Sok ps.length pre) [] :=
  ⟨f, fd, ps, [], mk, F.ok S (fun vs H Q E h => spX_len h) (fun cdv A outer s H vs Q E hr h => ⟨t, (der cdv A outer s H E hr).nox, spX_body pure vs H Q E h⟩), hm, hb, .nil⟩
end
end DL

set_option Elab.async false
set_option linter.all false
set_option maxRecDepth 100000
set_option maxHeartbeats 4000000
/-! ### int(text) of more than 640 digits: the limit is read off the statics -/
namespace BigT
open PySem PySem.Calls PySem.NumText PyProof.Rows PySem.W PySem.W.KIN
abbrev keyDig : PySem.Str := "sys.int_max_str_digits"
def NoLim (h : Heap) : Prop := ∀ M : Model, Looks M h (nsGet cStatics keyDig) (none : Option Value)
theorem wp_limit {M : Model} {A : Around} {E : Value → Shared → Prop} {s : Shared} {Q : Nat → Shared → Prop} (L : NoLim s.heap) (h : Q 4300 s) : wpAny M A Builtin.intMaxStrDigits Q E s := by
  unfold Builtin.intMaxStrDigits
  exact wpAny_bind ((L M).here (wpAny_pure h))
theorem wp_textL {M : Model} {A : Around} {E : Value → Shared → Prop} {s : Shared} {Q : Value → Shared → Prop} {v : Value} {text : List Nat} {n : Int} (L : NoLim s.heap)
    (hs : ¬ (text.takeWhile (· != 0)).length ≤ 640) (hr : (int_private% "readNumeral") 4300 10 (text.takeWhile (· != 0)) = (int_private% "Numeral.value") n)
    (ha : ((text.takeWhile (· != 0)).length == text.length) = true) (h : Q (.int n s.toks) { s with toks := s.toks + 1 }) :
    wpAny M A ((int_private% "intFromText") v text 10) Q E s := by
  obtain ⟨hp, g, d, tk, os⟩ := s
  repeat (any_goals (first
    | assumption
    | (with_reducible refine wpAny_ite_false (decide_eq_false hs) ?_)
    | (with_reducible refine wp_limit L ?_)
    | (with_reducible refine wpAny_ite_true (decide_eq_true ha) ?_)
    | wp_step))
  all_goals (try rw [hr])
  all_goals (try dsimp only)
  repeat (any_goals (first
    | assumption
    | (with_reducible refine wpAny_ite_true (decide_eq_true ha) ?_)
    | wp_step))
structure Hid (p : Prop) : Prop where
  out : p
theorem meets_textL {x : PySem.Str} {u : Tok} {n : Int} (hs : ¬ (numSeenOf x).length ≤ 640) (hr : (int_private% "readNumeral") 4300 10 (numSeenOf x) = (int_private% "Numeral.value") n) (ha : ((numSeenOf x).length == (numTextOf x).length) = true) :
    Meets (Builtin.«int.__new__» ⟨[.type "int", .str x u], []⟩) fun _ R s => NoLim s.heap ∧ R (.ok (.ret (.int n s.toks))) { s with toks := s.toks + 1 } := fun prog w A R s ⟨L, h⟩ => by
  obtain ⟨hp, g, d, tk, os⟩ := s
  have f1 := F.conv_sub_int
  have f2 := F.madeHere_int
  have f3 := str_int
  have f4 := str_idx
  have f5 := str_trunc
  have f6 : typeOf (.str x u) = pure (.type "str") := rfl
  have hk := Hid.mk (And.intro hs (And.intro hr ha))
  clear hs hr ha
  repeat (any_goals (first
    | assumption
    | ((with_reducible show wpAny _ _ ((int_private% "intFromText") _ _ _) _ _ _); refine wp_textL L hk.out.1 hk.out.2.1 hk.out.2.2 ?_)
    | wp_step))
theorem meets_textS {x : PySem.Str} {u : Tok} {n : Int} (hs : (numSeenOf x).length ≤ 640) (hr : (int_private% "readNumeral") 0 10 (numSeenOf x) = (int_private% "Numeral.value") n) (ha : ((numSeenOf x).length == (numTextOf x).length) = true) :
    Meets (Builtin.«int.__new__» ⟨[.type "int", .str x u], []⟩) fun _ R s => R (.ok (.ret (.int n s.toks))) { s with toks := s.toks + 1 } := fun prog w A R s h => by
  obtain ⟨hp, g, d, tk, os⟩ := s
  have f1 := F.conv_sub_int
  have f2 := F.madeHere_int
  have f3 := str_int
  have f4 := str_idx
  have f5 := str_trunc
  have f6 : typeOf (.str x u) = pure (.type "str") := rfl
  have hk := Hid.mk (And.intro hs (And.intro hr ha))
  clear hs hr ha
  repeat (any_goals (first
    | assumption
    | ((with_reducible show wpAny _ _ ((int_private% "intFromText") _ _ _) _ _ _); refine wp_text hk.out.1 hk.out.2.1 hk.out.2.2 ?_)
    | wp_step))
theorem call_textL {prog : Program} {w : World} {A : Around} {E : Value → Shared → Prop} {s : Shared} {Q : Value → Shared → Prop} {x : PySem.Str} {t : Tok} {n : Int} (hx : PySem.intText? x = some n) (hl : x.length ≤ sizeLine)
    (L : NoLim s.heap) (h : Q (.int n s.toks) { s with toks := s.toks + 1 }) : wpAny (model prog w) A (call (.type "int") [.str x t]) Q E s := by
  by_cases hs : (numSeenOf x).length ≤ 640
  · rcases read0 x hs with ⟨m, h1, h2, h3⟩ | ⟨h1, _⟩
    · rw [hx] at h1
      cases h1
      exact call_int_1 (meets_textS hs h3 h2) ⟨rfl, h⟩
    · rw [hx] at h1; cases h1
  · rcases read4300 x hl with ⟨m, h1, h2, h3⟩ | ⟨h1, _⟩
    · rw [hx] at h1
      cases h1
      exact call_int_1 (meets_textL hs h3 h2) ⟨L, rfl, h⟩
    · rw [hx] at h1; cases h1
end BigT
namespace DL
open PySem PySem.Spec PyProof.Rows L2
def zerosS : Str := ⟨(List.replicate 900 ("0" : Str).cps).foldl (· ++ ·) #[]⟩
def bigS : Str := ("1" : Str) ++ zerosS
abbrev rRep0 : R2 := fun x y H Q => x = .str "0" ∧ y = .int 900 ∧ Q (.str zerosS) H
abbrev rIntBig : List V → Hp → VK → Prop := fun xs H Q => xs = [V.str bigS] ∧ Q (.int (10 ^ 900)) H
section
variable {X : Cx}
theorem op_rep0 : OpR X (binaryOp .Mult) rRep0 := by
  intro pins s σ H x y u v Q I rx ry h
  obtain ⟨rfl, rfl, q⟩ := h
  obtain ⟨t, rfl⟩ := rx
  obtain ⟨t2, rfl⟩ := ry
  refine P.mul_str (by decide) (fun _ _ => by decide +kernel) (fun _ _ => by decide +kernel) ?_
  rw [if_neg (by decide), if_neg (by decide +kernel)]
  exact ⟨by decide +kernel, ⟨.str zerosS, H, I.tok _, ⟨_, rfl⟩, q⟩⟩
theorem cat_rep (a : Array Nat) : ∀ (n : Nat) (b : Array Nat), ((List.replicate n a).foldl (· ++ ·) b).toList = b.toList ++ (List.replicate n a.toList).flatten
  | 0, b => by simp
  | n + 1, b => by
    rw [List.replicate_succ, List.foldl_cons, cat_rep a n, List.replicate_succ, List.flatten_cons, Array.toList_append, List.append_assoc]
theorem rep_flat (n : Nat) : (List.replicate n [48]).flatten = List.replicate n 48 := by
  induction n with
  | zero => rfl
  | succ n ih => rw [List.replicate_succ, List.flatten_cons, ih]; rfl
theorem big_list : bigS.cps.toList = 49 :: List.replicate 900 48 := by
  have e : bigS.cps = ("1" : Str).cps ++ zerosS.cps := rfl
  rw [e, Array.toList_append]
  have e1 : ("1" : Str).cps.toList = [49] := by decide +kernel
  have e0 : ("0" : Str).cps.toList = [48] := by decide +kernel
  rw [e1]
  unfold zerosS
  rw [cat_rep, e0, rep_flat]
  rfl
theorem big_len : bigS.length = 901 := by
  have e : bigS.cps.toList.length = bigS.length := Array.length_toList
  rw [← e, big_list]
  simp
theorem big_val : PySem.intText? bigS = some (10 ^ 900) := by
  have h : NumText.AllDigits bigS.cps.toList := by
    rw [big_list]
    intro c hc
    rcases List.mem_cons.mp hc with e | hc
    · subst e; decide
    · rw [(List.mem_replicate.mp hc).2]; decide
  have e := PySem.intText_digits h (by rw [big_list]; exact List.cons_ne_nil _ _) (by rw [big_len]; decide)
  rw [e, big_list]
  have v : NumText.digitsVal (49 :: List.replicate 900 48) = 10 ^ 900 := by decide +kernel
  rw [v]
  rfl
theorem cr_intBig (hL : PySem.W.nsIn X.K cStatics BigT.keyDig = some none) : CallR X (.type "int") rIntBig := by
  intro pins s σ H xs us Q I r h
  obtain ⟨rfl, q⟩ := h
  cases r with
  | cons r1 r2 =>
    cases r2
    obtain ⟨t, rfl⟩ := r1
    exact BigT.call_textL big_val (by rw [big_len, sizeLine_eq]; omega) (fun M => PySem.W.looks_nsIn I.kIn hL) ⟨.int (10 ^ 900), H, I.tok _, ⟨_, rfl⟩, q⟩
end
theorem big_le : ("1" : Str).length + zerosS.length ≤ sizeLine := by
  have e := big_len
  have e2 : bigS.length = ("1" : Str).length + zerosS.length := by
    unfold bigS Str.length
    exact Array.size_append
  rw [← e2, e, sizeLine_eq]
  omega
theorem ev_big {W : Wd} {m : M} {ρ : Names} {P : PD} (h : P (.int (10 ^ 900)) m) : Ev W (tCB rIntBig (tCons (tOp (rAddA W.K) (tC (.str "1")) (tOp rRep0 (tC (.str "0")) (tC (.int 900)))) tNil)) m ρ P := fun U σ H I Q k =>
  ⟨rfl, rfl, .inr (.inl ⟨_, _, rfl, rfl, big_le, rfl, k _ _ m H Go.refl I (.int _) h⟩)⟩
end DL

set_option Elab.async false
set_option linter.all false
set_option maxRecDepth 100000
set_option maxHeartbeats 4000000
/-! ### zip of three lists -/
namespace DL
open PySem PySem.Spec PyProof.Rows L2
def Itz3 (K : PySem.W.Frag) (a b c : Addr) : It :=
  ⟨fun i H => ∃ (xs ys zs : List V) (x y z : V), SqL K H a xs ∧ SqL K H b ys ∧ SqL K H c zs ∧ xs[i]? = some x ∧ ys[i]? = some y ∧ zs[i]? = some z,
    fun i H v H' => ∃ T x y z, v = .ref T ∧ H T = none ∧ H' = upd H T (.tup [x, y, z]) ∧ (∀ xs, SqL K H a xs → xs[i]? = some x) ∧ (∀ ys, SqL K H b ys → ys[i]? = some y) ∧ ∀ zs, SqL K H c zs → zs[i]? = some z,
    fun i H => ∃ xs ys zs : List V, SqL K H a xs ∧ SqL K H b ys ∧ SqL K H c zs ∧ xs.length = i ∧ ys.length = i ∧ zs.length = i⟩
theorem turn_zip3 {P : Program} {w : World} {K : PySem.W.Frag} {elts : List Expr} {kk : Nat} {tpos : Pos} {a b c z TI TO i1 i2 i3 : Addr} (S : ZipSep3 z TI TO i1 i2 i3 [i1, a] [i2, b] [i3, c]) (n1 : a ≠ i1) (n2 : b ≠ i2) (n3 : c ≠ i3) :
    Turn P w K (.Tuple elts kk tpos) (Itz3 K a b c) [z, TI, TO, i1, i2, i3] z (fun i h => IsZip h z TI TO .none ∧ IsTupOf3 h TI (.ref i1) (.ref i2) (.ref i3) ∧ (∃ x y u, IsTupOf3 h TO x y u) ∧ h.IsListIter i1 a i ∧ h.IsListIter i2 b i ∧ h.IsListIter i3 c i) where
  mem := by simp
  obj := fun i h st d hc => by
    obtain ⟨hz, hTI, ⟨x, y, u, hTO⟩, ⟨o1, e1, _, d1⟩, ⟨o2, e2, _, d2⟩, ⟨o3, e3, _, d3⟩⟩ := st
    have e' : d = z ∨ d = TI ∨ d = TO ∨ d = i1 ∨ d = i2 ∨ d = i3 := by simpa using hc
    rcases e' with q | q | q | q | q | q
    · rw [q]; exact ⟨_, hz, fun v q => nomatch q⟩
    · rw [q]; exact ⟨_, hTI, fun v q => nomatch q⟩
    · rw [q]; exact ⟨_, hTO, fun v q => nomatch q⟩
    · rw [q]; exact ⟨o1, e1, fun v q => by rw [d1] at q; cases q⟩
    · rw [q]; exact ⟨o2, e2, fun v q => by rw [d2] at q; cases q⟩
    · rw [q]; exact ⟨o3, e3, fun v q => by rw [d3] at q; cases q⟩
  keep := fun i h h' st k => by
    obtain ⟨hz, hTI, ⟨x, y, u, hTO⟩, h1, h2, h3⟩ := st
    exact ⟨k z (by simp) _ hz, k TI (by simp) _ hTI, ⟨x, y, u, k TO (by simp) _ hTO⟩, h1.at fun o q => k i1 (by simp) o q, h2.at fun o q => k i2 (by simp) o q, h3.at fun o q => k i3 (by simp) o q⟩
  item := by
    intro X hP hw hK hc i pins s σ H E I hf st hg
    subst hP hw hK
    obtain ⟨hz, hTI, hTO, h1, h2, h3⟩ := st
    obtain ⟨xs, ys, zs, x, y, u, hqx, hqy, hqz, hx, hy, hu⟩ := hg
    obtain ⟨its, rv, p, _⟩ := I.list hqx
    obtain ⟨its2, rv2, p2, _⟩ := I.list hqy
    obtain ⟨its3, rv3, p3, _⟩ := I.list hqz
    obtain ⟨v1, hv1, r1⟩ := rv.get hx
    obtain ⟨v2, hv2, r2⟩ := rv2.get hy
    obtain ⟨v3, hv3, r3⟩ := rv3.get hu
    have hh : X.A.in1.handled = none := I.ok.hd hc
    have W := WalksT.zipD3 (prog := X.prog) (w := X.w) (A := X.A) S (Draws.list hh i1 a n1 its.toArray) (Draws.list hh i2 b n2 its2.toArray) (Draws.list hh i3 c n3 its3.toArray)
    have l1 : i < its.length := (List.getElem?_eq_some_iff.mp hv1).1
    have l2 : i < its2.length := (List.getElem?_eq_some_iff.mp hv2).1
    have l3 : i < its3.length := (List.getElem?_eq_some_iff.mp hv3).1
    refine W.item i s _ _ (by simp only [List.size_toArray]; omega) ⟨hz, hTI, hTO, ⟨h1, p.isList⟩, ⟨h2, p2.isList⟩, h3, p3.isList⟩ fun T vals h' tk hP hTs hT hM hk => ?_
    obtain ⟨w1, w2, w3, e1, e2, e3, ev⟩ := hP
    have g1 : w1 = v1 := by
      have : its[i]? = some w1 := by simpa using e1
      rw [hv1] at this; exact (Option.some.inj this).symm
    have g2 : w2 = v2 := by
      have : its2[i]? = some w2 := by simpa using e2
      rw [hv2] at this; exact (Option.some.inj this).symm
    have g3 : w3 = v3 := by
      have : its3[i]? = some w3 := by simpa using e3
      rw [hv3] at this; exact (Option.some.inj this).symm
    subst g1 g2 g3 ev
    have hTn : T ∉ [z, TO, i1, i2, i3] := W.apart i T h' hM
    refine ⟨_, rfl, W.go elts kk tpos i T { s with heap := h', toks := tk } _ _ hM fun h'' hS hk2 => ?_⟩
    have hT2 : h''.IsTuple T #[w1, w2, w3] := hT.at fun o q => hk2 _ _ hTn q
    obtain ⟨hz', hTI', hTO', ⟨h1', _⟩, ⟨h2', _⟩, h3', _⟩ := hS
    have new : ObjOk X.prog X.w (upd H T (.tup [x, y, u])) h'' T (.tup [x, y, u]) :=
      ⟨by rw [sizeLine_eq]; show 3 ≤ _; omega, [w1, w2, w3], .cons r1 (.cons r2 (.cons r3 .nil)), hT2⟩
    have I1 : Inv X pins σ (upd H T (.tup [x, y, u])) { s with heap := h'', toks := tk } :=
      I.turnedNew (t' := tk) (ch := [z, TO, i1, i2, i3]) (fun c o hb q => hk2 c o hb (hk c o hb q)) (fun q hq => hf q (by
        have e' : q = z ∨ q = TO ∨ q = i1 ∨ q = i2 ∨ q = i3 := by simpa using hq
        rcases e' with e | e | e | e | e <;> subst e <;> simp)) hTs new
    refine ⟨.ref T, _, I1, rfl, ⟨T, x, y, u, rfl, I.hok.fresh hTs, rfl, fun l hl => by rw [I.list_inj hl hqx]; exact hx, fun l hl => by rw [I.list_inj hl hqy]; exact hy, fun l hl => by rw [I.list_inj hl hqz]; exact hu⟩, ⟨hz', hTI', hTO', h1', h2', h3'⟩, fun d hd => ?_⟩
    have hlt : d < s.heap.objs.size := by
      have e' : d = z ∨ d = TI ∨ d = TO ∨ d = i1 ∨ d = i2 ∨ d = i3 := by simpa using hd
      obtain ⟨x0, y0, u0, hTO⟩ := hTO
      rcases e' with q | q | q | q | q | q
      · rw [q]; exact Heap.lt_size hz
      · rw [q]; exact Heap.lt_size hTI
      · rw [q]; exact Heap.lt_size hTO
      · rw [q]; obtain ⟨_, e1, _⟩ := h1; exact Heap.lt_size e1
      · rw [q]; obtain ⟨_, e2, _⟩ := h2; exact Heap.lt_size e2
      · rw [q]; obtain ⟨_, e3, _⟩ := h3; exact Heap.lt_size e3
    rw [upd_ne (Nat.ne_of_lt (Nat.lt_of_lt_of_le hlt hTs))]
    exact (hf d hd).1
  done := by
    intro X hP hw hK hc i pins s σ H E I hf st hg
    subst hP hw hK
    obtain ⟨hz, hTI, hTO, h1, h2, h3⟩ := st
    obtain ⟨xs, ys, zs, hqx, hqy, hqz, e1, e2, e3⟩ := hg
    obtain ⟨its, rv, p, _⟩ := I.list hqx
    obtain ⟨its2, rv2, p2, _⟩ := I.list hqy
    obtain ⟨its3, rv3, p3, _⟩ := I.list hqz
    have l1 := rv.length
    have l2 := rv2.length
    have l3 := rv3.length
    have hh : X.A.in1.handled = none := I.ok.hd hc
    have W := WalksT.zipD3 (prog := X.prog) (w := X.w) (A := X.A) S (Draws.list hh i1 a n1 its.toArray) (Draws.list hh i2 b n2 its2.toArray) (Draws.list hh i3 c n3 its3.toArray)
    have en : min (min its.toArray.size its2.toArray.size) its3.toArray.size = i := by simp only [List.size_toArray]; omega
    refine W.done s _ _ (by rw [en]; exact ⟨hz, hTI, hTO, ⟨h1, p.isList⟩, ⟨h2, p2.isList⟩, h3, p3.isList⟩) fun h' tk hk => ⟨rfl, I.turnedL (t' := tk) (ch := [z, TO, i1, i2, i3]) hk (fun q hq => hf q (by
        have e' : q = z ∨ q = TO ∨ q = i1 ∨ q = i2 ∨ q = i3 := by simpa using hq
        rcases e' with e | e | e | e | e <;> subst e <;> simp))⟩
  self := fun A i s Q E st h => wpAny_pyIter_zip st.1 h
def iZip3 (K : PySem.W.Frag) (ta : TA) : TI := fun σ H R => ta σ H fun vs H1 => ∃ a b c xs ys zs, vs = [.ref a, .ref b, .ref c] ∧ SqL K H1 a xs ∧ SqL K H1 b ys ∧ SqL K H1 c zs ∧ R (Itz3 K a b c) H1
theorem pi_zip3 {X : Cx} {e e2 e3 : Expr} {ta : TA} {p pos tpos : Pos} {elts : List Expr} {kk : Nat} (hg : Gl X "zip") (hm : X.mg "zip" = none) (ha : PA X [e, e2, e3] ta)
    (hs : starEach [e, e2, e3] X.env = (false, eval e X.env) :: starEach [e2, e3] X.env := by rfl) (hpl : (backTo pos (starEach [e2, e3] X.env)).any (·.1) = false := by rfl) :
    PI X (.Tuple elts kk tpos) (.Call (.Name "zip" p) [e, e2, e3] [] pos) (iZip3 X.K ta) := by
  refine ⟨fun pins s σ H R I h => ?_⟩
  refine Call_ (ld_blt I hg hm PyProof.Rows.boot_zip (PyProof.Rows.callWith_type1 (thn (ha.run pos pins s σ H _ I h) fun us s1 ⟨vs, H1, I1, r1, q1⟩ => ?_) hs hpl))
  obtain ⟨a, b, c, xs, ys, zs, ex, hqx, hqy, hqz, q⟩ := q1
  subst ex
  cases r1 with
  | cons r rr => cases rr with
    | cons r' rr => cases rr with
      | cons r'' rr =>
        cases rr
        cases r
        cases r'
        cases r''
        obtain ⟨its, rv, p1, _⟩ := I1.list hqx
        obtain ⟨its2, rv2, p2, _⟩ := I1.list hqy
        obtain ⟨its3, rv3, p3, _⟩ := I1.list hqz
        have la : a < s1.heap.objs.size := p1.lt
        have lb : b < s1.heap.objs.size := p2.lt
        have lc : c < s1.heap.objs.size := p3.lt
        refine zip_begins3 (begins_list a its.toArray) (begins_list b its2.toArray) (begins_list c its3.toArray) p1.isList p2.isList p3.isList fun h' hz hTI hTO h1 h2 h3 hsz hk => wpAny_pyIter_zip hz ?_
        have I2 : Inv X pins σ H1 { s1 with heap := h' } := I1.kept (t' := s1.toks) hk
        refine ⟨s1.heap.objs.size + 5, [s1.heap.objs.size + 5, s1.heap.objs.size + 3, s1.heap.objs.size + 4, s1.heap.objs.size, s1.heap.objs.size + 1, s1.heap.objs.size + 2], _, _, H1, rfl, I2,
          turn_zip3 (zip_sep3 (fun d hd => by rw [List.mem_singleton.mp hd]; exact la) (fun d hd => by rw [List.mem_singleton.mp hd]; exact lb) (fun d hd => by rw [List.mem_singleton.mp hd]; exact lc)) (Nat.ne_of_lt la) (Nat.ne_of_lt (Nat.lt_succ_of_lt lb)) (Nat.ne_of_lt (Nat.lt_succ_of_lt (Nat.lt_succ_of_lt lc))),
          ⟨hz, hTI, ⟨_, _, _, hTO⟩, ⟨_, h1, rfl, rfl⟩, ⟨_, h2, rfl, rfl⟩, ⟨_, h3, rfl, rfl⟩⟩, fun d hcm => ?_, q⟩
        have e' : d = s1.heap.objs.size + 5 ∨ d = s1.heap.objs.size + 3 ∨ d = s1.heap.objs.size + 4 ∨ d = s1.heap.objs.size ∨ d = s1.heap.objs.size + 1 ∨ d = s1.heap.objs.size + 2 := by simpa using hcm
        have hle : s1.heap.objs.size ≤ d := by
          rcases e' with z | z | z | z | z | z
          · rw [z]; exact Nat.le_add_right _ _
          · rw [z]; exact Nat.le_add_right _ _
          · rw [z]; exact Nat.le_add_right _ _
          · rw [z]; exact Nat.le_refl _
          · rw [z]; exact Nat.le_add_right _ _
          · rw [z]; exact Nat.le_add_right _ _
        exact I1.fpOk hle (I1.hok.fresh hle)
/-! ### over data -/
section
variable {W : Wd} {m : M} {ρ : Names} {PI' : List D → M → Prop} {ta : TA}
theorem sq_l {K : PySem.W.Frag} {U : Addr → Prop} {H : Hp} {v : V} {ds : List D} (r : Rp K U H v (.list ds)) : ∃ a xs, v = .ref a ∧ ¬ U a ∧ H a = some (.lst xs) ∧ RpAll K U H xs ds := by
  cases r with
  | lst n h a => exact ⟨_, _, rfl, n, h, a⟩
theorem ei_zip3 (h : EvA W ta m ρ fun ds m1 => ∃ xs ys zs : List D, ds = [.list xs, .list ys, .list zs] ∧ xs.length = ys.length ∧ xs.length = zs.length ∧ PI' ((List.range xs.length).map fun i => .tuple [xs.getD i .none, ys.getD i .none, zs.getD i .none]) m1) : EvI W (iZip3 W.K ta) m ρ PI' := fun U σ H I R k =>
  h U σ H I _ fun vs ds m1 H1 e1 I1 r1 ⟨xs, ys, zs, ed, l1, l2, p⟩ => by
    subst ed
    cases r1 with
    | cons ra rr => cases rr with
      | cons rb rr => cases rr with
        | cons rc rr =>
          cases rr
          obtain ⟨a, as, rfl, na, ha, raa⟩ := sq_l ra
          obtain ⟨b, bs, rfl, nb, hb, rbb⟩ := sq_l rb
          obtain ⟨c, cs, rfl, nc, hc, rcc⟩ := sq_l rc
          refine ⟨a, b, c, as, bs, cs, rfl, .inl (.inl ha), .inl (.inl hb), .inl (.inl hc), k _ _ m1 H1 e1 I1 (fun U' H' f => ?_) p⟩
          have ha' := f.ex a _ ha na
          have hb' := f.ex b _ hb nb
          have hc' := f.ex c _ hc nc
          have z1 := raa.length
          have z2 := rbb.length
          have z3 := rcc.length
          refine ⟨⟨as, bs, cs, .inl (.inl ha'), .inl (.inl hb'), .inl (.inl hc'), ?_, ?_, ?_⟩, fun i d hd => ?_⟩
          · rw [List.length_map, List.length_range]; omega
          · rw [List.length_map, List.length_range]; omega
          · rw [List.length_map, List.length_range]; omega
          · rw [List.getElem?_map] at hd
            have hi : i < xs.length := by
              by_cases q : i < xs.length
              · exact q
              · rw [List.getElem?_eq_none (by rw [List.length_range]; omega)] at hd; cases hd
            rw [List.getElem?_range hi] at hd
            have hd := (Option.some.inj hd).symm
            subst hd
            obtain ⟨u1, hu1, q1⟩ := raa.get (List.getElem?_eq_getElem hi)
            obtain ⟨u2, hu2, q2⟩ := rbb.get (List.getElem?_eq_getElem (show i < ys.length by omega))
            obtain ⟨u3, hu3, q3⟩ := rcc.get (List.getElem?_eq_getElem (show i < zs.length by omega))
            refine ⟨⟨as, bs, cs, u1, u2, u3, .inl (.inl ha'), .inl (.inl hb'), .inl (.inl hc'), hu1, hu2, hu3⟩, fun x H'' ⟨T, x1, x2, x3, ex, hT, eH, g1, g2, g3⟩ => .inr ⟨T, [x1, x2, x3], hT, eH, ?_⟩⟩
            have g1 := g1 as (.inl (.inl ha'))
            have g2 := g2 bs (.inl (.inl hb'))
            have g3 := g3 cs (.inl (.inl hc'))
            rw [hu1] at g1
            rw [hu2] at g2
            rw [hu3] at g3
            cases g1; cases g2; cases g3
            subst ex eH
            have f2 : Fut U H1 U' (upd H' T (.tup [u1, u2, u3])) := ⟨f.ex.trans ((ExU.new (U := U) hT).mono fun _ h => h), f.up, f.nw⟩
            have e1 : xs.getD i .none = xs[i] := by rw [List.getD_eq_getElem?_getD, List.getElem?_eq_getElem hi]; rfl
            have e2 : ys.getD i .none = ys[i] := by rw [List.getD_eq_getElem?_getD, List.getElem?_eq_getElem (show i < ys.length by omega)]; rfl
            have e3 : zs.getD i .none = zs[i] := by rw [List.getD_eq_getElem?_getD, List.getElem?_eq_getElem (show i < zs.length by omega)]; rfl
            dsimp only
            rw [e1, e2, e3]
            exact .tup (.inl (.inl upd_same)) (.cons (q1.fut I1.uok f2) (.cons (q2.fut I1.uok f2) (.cons (q3.fut I1.uok f2) .nil)))
end
end DL

set_option Elab.async false
set_option linter.all false
set_option maxRecDepth 100000
set_option maxHeartbeats 4000000
/-! ### a dict of ints that are there (int: True) -/
namespace DL
open PySem PySem.Spec PyProof.Rows L2
abbrev rLenD : List V → Hp → VK → Prop := fun xs H Q => ∃ a kvs, xs = [V.ref a] ∧ H a = some (.dK kvs) ∧ Q (.int kvs.length) H
def mkD (ks : List Int) : List (Key × D) := ks.map fun i => (.inl i, .bool true)
def mkV (ks : List Int) : List (Key × V) := ks.map fun i => (.inl i, .bl true)
theorem mkD_inv {K : PySem.W.Frag} {U : Addr → Prop} {H : Hp} : ∀ {ks : List Int} {xs : List (Key × V)}, RpKs K U H xs (mkD ks) → xs = mkV ks
  | [], _, h => by cases h; rfl
  | k :: ks, _, h => by
    cases h with
    | cons a b =>
      cases a
      rw [mkD_inv b]
      rfl
theorem mkD_rp {K : PySem.W.Frag} {U : Addr → Prop} {H : Hp} : ∀ (ks : List Int), RpKs K U H (mkV ks) (mkD ks)
  | [] => .nil
  | _ :: ks => .cons (.bl true) (mkD_rp ks)
theorem key_dec {i j : Int} : decide ((Sum.inl j : Key) = Sum.inl i) = decide (j = i) := by
  by_cases h : j = i
  · subst h; simp
  · rw [decide_eq_false h, decide_eq_false fun q => h (Sum.inl.inj q)]
theorem mkV_val (i : Int) : ∀ ks : List Int, valV (mkV ks) (.inl i) = if i ∈ ks then some (.bl true) else none
  | [] => rfl
  | k :: ks => by
    have ih := mkV_val i ks
    unfold valV mkV at ih ⊢
    rw [List.map_cons, List.find?_cons]
    by_cases h : k = i
    · subst h
      rw [show decide ((Sum.inl k : Key) = Sum.inl k) = true from decide_eq_true rfl]
      simp
    · rw [show decide ((Sum.inl k : Key) = Sum.inl i) = false by rw [key_dec]; exact decide_eq_false h]
      rw [ih]
      have h2 : ¬ i = k := fun e => h e.symm
      simp [h2]
theorem mkV_put {i : Int} {ks : List Int} (h : i ∉ ks) : putK (mkV ks) (.inl i) (.bl true) = mkV (ks ++ [i]) := by
  unfold putK
  have e : ((mkV ks).any fun kv => decide (kv.1 = (Sum.inl i : Key))) = false := by
    rw [List.any_eq_false]
    intro x hx
    obtain ⟨k, hk, rfl⟩ := List.mem_map.mp hx
    simp only [key_dec, decide_eq_true_eq]
    exact fun q => h (by rw [← q]; exact hk)
  rw [if_neg (by rw [e]; exact Bool.false_ne_true)]
  unfold mkV
  rw [List.map_append]
  rfl
theorem mkV_drop (i : Int) : ∀ ks : List Int, dropK (mkV ks) (.inl i) = mkV (ks.filter fun k => !decide (k = i))
  | [] => rfl
  | k :: ks => by
    have ih := mkV_drop i ks
    unfold dropK mkV at ih ⊢
    rw [List.map_cons, List.filter_cons, List.filter_cons, ih]
    by_cases h : k = i
    · subst h; simp
    · rw [if_pos (by simp [h]), if_pos (by simp [h])]
      rfl
section
variable {W : Wd} {m : M} {P : PD} {d : D} {ρ : Names} {te to ti ty td : TE} {D0 : AE}
theorem ev_din (h : Ev W ty m ρ fun d1 m1 => Ev W td m1 ρ fun d2 m2 => ∃ (i : Int) (l : Addr) (n : Nat) (ks : List Int), d1 = .int i ∧ d2 = ob l ∧ m2[n]? = some (l, .dK (mkD ks)) ∧ P (.bool (decide (i ∈ ks))) m2) : Ev W (tDIn ty td) m ρ P := fun U σ H I Q k =>
  h U σ H I _ fun v1 d1 m1 H1 g1 I1 r1 p1 => p1 U σ H1 I1 _ fun v2 d2 m2 H2 g2 I2 r2 ⟨i, l, n, ks, e1, e2, hm, p⟩ => by
    subst e1 e2
    cases r1
    have z := ob_inv r2
    subst z
    obtain ⟨_, _, xs, hx, rk⟩ := I2.at_ hm
    have e := mkD_inv rk
    subst e
    refine ⟨l, _, rfl, DGet.k (k := .inl i) hx, ?_⟩
    rw [mkV_val]
    have e3 : (if i ∈ ks then some (V.bl true) else none).isSome = decide (i ∈ ks) := by by_cases h : i ∈ ks <;> simp [h]
    rw [e3]
    exact k _ _ m2 H2 (g1.trans g2) I2 (.bl _) p
theorem ev_dnin (h : Ev W ty m ρ fun d1 m1 => Ev W td m1 ρ fun d2 m2 => ∃ (i : Int) (l : Addr) (n : Nat) (ks : List Int), d1 = .int i ∧ d2 = ob l ∧ m2[n]? = some (l, .dK (mkD ks)) ∧ P (.bool (!decide (i ∈ ks))) m2) : Ev W (tDNotIn ty td) m ρ P := fun U σ H I Q k =>
  h U σ H I _ fun v1 d1 m1 H1 g1 I1 r1 p1 => p1 U σ H1 I1 _ fun v2 d2 m2 H2 g2 I2 r2 ⟨i, l, n, ks, e1, e2, hm, p⟩ => by
    subst e1 e2
    cases r1
    have z := ob_inv r2
    subst z
    obtain ⟨_, _, xs, hx, rk⟩ := I2.at_ hm
    have e := mkD_inv rk
    subst e
    refine ⟨l, _, rfl, DGet.k (k := .inl i) hx, ?_⟩
    rw [mkV_val]
    have e3 : (if i ∈ ks then some (V.bl true) else none).isSome = decide (i ∈ ks) := by by_cases h : i ∈ ks <;> simp [h]
    rw [e3]
    exact k _ _ m2 H2 (g1.trans g2) I2 (.bl _) p
theorem StU.setKs {U : Addr → Prop} {σ : L2.St} {H : Hp} {n : Nat} {l : Addr} {mo : MO} (I : StU W U m ρ σ H) (hm : m[n]? = some (l, mo)) (ks : List Int) :
    StU W U (m.set n (l, .dK (mkD ks))) ρ σ (upd H l (.dK (mkV ks))) ∧ Go W m H (m.set n (l, .dK (mkD ks))) (upd H l (.dK (mkV ks))) :=
  I.setM hm trivial (show MAt W.K U (upd H l (.dK (mkV ks))) l (.dK (mkD ks)) from ⟨_, upd_same, mkD_rp ks⟩)
/-- d[i] = True, i not there -/
theorem sv_asgSubD (h : Ev W te m ρ fun d m1 => Ev W to m1 ρ fun d1 m2 => ∃ l, d1 = ob l ∧ Ev W ti m2 ρ fun d2 m3 => ∃ (i : Int) (n : Nat) (ks : List Int), d = .bool true ∧ d2 = .int i ∧ m3[n]? = some (l, .dK (mkD ks)) ∧ i ∉ ks ∧ ks.length < sizeLine ∧ D0.nx (m3.set n (l, .dK (mkD (ks ++ [i])))) ρ) :
    Sv W (tAsg te (gSub to ti rSetD)) m ρ D0 := fun U σ H I E k =>
  h U σ H I _ fun v d m1 H1 g1 I1 r1 p1 => p1 U σ H1 I1 _ fun v1 d1 m2 H2 g2 I2 r2 ⟨l, e1, p2⟩ => p2 U σ H2 I2 _ fun v2 d2 m3 H3 g3 I3 r3 ⟨i, n, ks, e0, e2, hm, hi, hl, p3⟩ => by
    subst e0 e1 e2
    cases r1
    cases r3
    have z := ob_inv r2
    subst z
    obtain ⟨hu, hs, xs, hx, rk⟩ := I3.at_ hm
    have e := mkD_inv rk
    subst e
    obtain ⟨J, g4⟩ := I3.setKs hm (ks ++ [i])
    refine ⟨l, _, rfl, DPut.k (k := .inl i) hx (by unfold mkV; rw [List.length_map]; exact hl), ?_⟩
    rw [mkV_put hi]
    exact k.nx U _ _ σ _ (Fut.of ((((g1.trans g2).trans g3).trans g4).exU I)) J p3
/-- d.pop(i), i there -/
theorem ev_dpop1 (h : Ev W td m ρ fun d1 m1 => ∃ (l : Addr) (n0 : Nat) (ks0 : List Int), d1 = ob l ∧ m1[n0]? = some (l, .dK (mkD ks0)) ∧ Ev W ty m1 ρ fun d2 m2 => ∃ (i : Int) (n : Nat) (ks : List Int), d2 = .int i ∧ m2[n]? = some (l, .dK (mkD ks)) ∧ i ∈ ks ∧ P (.bool true) (m2.set n (l, .dK (mkD (ks.filter fun k => !decide (k = i)))))) :
    Ev W (tDPop1 td ty) m ρ P := fun U σ H I Q k =>
  h U σ H I _ fun v1 d1 m1 H1 g1 I1 r1 ⟨l, n0, ks0, e1, hm0, p1⟩ => by
    subst e1
    have z := ob_inv r1
    subst z
    obtain ⟨_, _, xs0, hx0, _⟩ := I1.at_ hm0
    refine ⟨l, rfl, .inl ⟨_, .inl hx0⟩, p1 U σ H1 I1 _ fun v2 d2 m2 H2 g2 I2 r2 ⟨i, n, ks, e2, hm, hi, p⟩ => ?_⟩
    subst e2
    cases r2
    obtain ⟨hu, hs, xs, hx, rk⟩ := I2.at_ hm
    have e := mkD_inv rk
    subst e
    obtain ⟨J, g3⟩ := I2.setKs hm (ks.filter fun k => !decide (k = i))
    refine ⟨_, .inl i, .bl true, hx, rfl, by rw [mkV_val, if_pos hi], ?_⟩
    rw [mkV_drop]
    exact k _ _ _ _ ((g1.trans g2).trans g3) J (.bl _) p
theorem cd_lenD {n : Nat} {l : Addr} {ks : List Int} (hm : m[n]? = some (l, .dK (mkD ks))) (h : P (.int ks.length) m) : CallD W rLenD [ob l] m P := fun U ρ σ H vs I r Q k => by
  cases r with
  | cons r1 r2 =>
    cases r2
    have z := ob_inv r1
    subst z
    obtain ⟨_, _, xs, hx, rk⟩ := I.at_ hm
    have e := mkD_inv rk
    subst e
    refine ⟨l, _, rfl, hx, ?_⟩
    rw [show (mkV ks).length = ks.length from List.length_map ..]
    exact k _ _ m H Go.refl I (.int _) h
theorem od_neB {b c : Bool} (h : P (.bool (!decide (b = c))) m) : OpD W (rNeA W.K) (.bool b) (.bool c) m P := fun U ρ σ H v w I r1 r2 Q k => by
  cases r1; cases r2
  refine .inl ⟨rfl, ?_⟩
  have e : decide (V.bl b = V.bl c) = decide (b = c) := by cases b <;> cases c <;> rfl
  rw [e]
  exact k _ _ m H Go.refl I (.bl _) h
end
end DL

set_option Elab.async false
set_option linter.all false
set_option maxRecDepth 100000
set_option maxHeartbeats 1000000
/-! the mathematics of the standard tables: binomials, least numbers of lists, places -/
namespace EM
open DL
/-! ### binomials -/
def ch : Nat → Nat → Nat
  | _, 0 => 1
  | 0, _ + 1 => 0
  | n + 1, k + 1 => ch n k + ch n (k + 1)
theorem ch_zero (n : Nat) : ch n 0 = 1 := by cases n <;> rfl
theorem ch_zs (k : Nat) : ch 0 (k + 1) = 0 := rfl
theorem ch_ss (n k : Nat) : ch (n + 1) (k + 1) = ch n k + ch n (k + 1) := rfl
theorem ch_gt : ∀ {n k : Nat}, n < k → ch n k = 0
  | _, 0, h => absurd h (Nat.not_lt_zero _)
  | 0, k + 1, _ => rfl
  | n + 1, k + 1, h => by
    rw [ch_ss, ch_gt (Nat.lt_of_succ_lt_succ h), ch_gt (Nat.lt_of_succ_lt h)]
theorem ch_self : ∀ n : Nat, ch n n = 1
  | 0 => rfl
  | n + 1 => by rw [ch_ss, ch_self n, ch_gt (Nat.lt_succ_self n)]
theorem ch_one : ∀ n : Nat, ch n 1 = n
  | 0 => rfl
  | n + 1 => by rw [show (1 : Nat) = 0 + 1 from rfl, ch_ss, ch_zero, ch_one n]; omega
/-- (k+1) C(n,k+1) = (n-k) C(n,k) -/
theorem ch_a : ∀ n k : Nat, k ≤ n → (k + 1) * ch n (k + 1) = (n - k) * ch n k
  | 0, k, h => by
    have : k = 0 := by omega
    subst this
    rfl
  | n + 1, 0, _ => by rw [ch_zero, show (0 + 1 : Nat) = 1 from rfl, ch_one]; omega
  | n + 1, k + 1, h => by
    have hk : k ≤ n := Nat.le_of_succ_le_succ h
    have a := ch_a n k hk
    rw [show n + 1 - (k + 1) = n - k by omega]
    rcases Nat.lt_or_ge k n with c | c
    · have b := ch_a n (k + 1) c
      rw [ch_ss n (k + 1), ch_ss n k, Nat.mul_add, Nat.mul_add, b, ← a]
      have e : (k + 1 + 1) * ch n (k + 1) + (n - (k + 1)) * ch n (k + 1) = (k + 1) * ch n (k + 1) + (n - k) * ch n (k + 1) := by
        rw [← Nat.add_mul, ← Nat.add_mul]
        congr 1
        omega
      exact e
    · have e : k = n := by omega
      subst e
      rw [Nat.sub_self, Nat.zero_mul, ch_gt (by omega)]
      rfl
/-- (n+1) C(n,k) = (k+1) C(n+1,k+1) -/
theorem ch_b (n k : Nat) (h : k ≤ n) : (n + 1) * ch n k = (k + 1) * ch (n + 1) (k + 1) := by
  rw [ch_ss, Nat.mul_add, ch_a n k h, ← Nat.add_mul]
  congr 1
  omega
theorem ch_pos : ∀ {n k : Nat}, k ≤ n → 0 < ch n k
  | n, 0, _ => by rw [ch_zero]; exact Nat.one_pos
  | 0, k + 1, h => absurd h (by omega)
  | n + 1, k + 1, h => by
    rw [ch_ss]
    have := ch_pos (n := n) (k := k) (by omega)
    omega
theorem ch_sym : ∀ {n k : Nat}, k ≤ n → ch n (n - k) = ch n k
  | n, 0, _ => by rw [Nat.sub_zero, ch_self, ch_zero]
  | 0, k + 1, h => absurd h (by omega)
  | n + 1, k + 1, h => by
    rcases Nat.lt_or_ge k n with c | c
    · obtain ⟨j, hj⟩ : ∃ j, n - k = j + 1 := ⟨n - k - 1, by omega⟩
      rw [show n + 1 - (k + 1) = j + 1 by omega, ch_ss, ch_ss]
      have a := ch_sym (n := n) (k := k) (by omega)
      have b := ch_sym (n := n) (k := k + 1) (by omega)
      rw [hj] at a
      rw [show n - (k + 1) = j by omega] at b
      omega
    · have e : k = n := by omega
      subst e
      rw [Nat.sub_self, ch_zero, ch_self]
theorem ch_le : ∀ n k : Nat, ch n k ≤ 2 ^ n
  | n, 0 => by rw [ch_zero]; exact Nat.one_le_two_pow
  | 0, k + 1 => Nat.zero_le _
  | n + 1, k + 1 => by
    have a := ch_le n k
    have b := ch_le n (k + 1)
    rw [ch_ss, Nat.pow_succ]
    omega
/-- one turn of the loop -/
theorem ch_step {n k : Nat} (h : k < n) : ch n k * (n - k) / (k + 1) = ch n (k + 1) := by
  rw [Nat.mul_comm, ← ch_a n k (Nat.le_of_lt h), Nat.mul_comm, Nat.mul_div_cancel _ (Nat.succ_pos k)]
/-! ### level divisors, the least number of lists -/
def ed (n b : Nat) : Nat := n * ch (n - 1) b
theorem ed_pos {n b : Nat} (h : b < n) : 0 < ed n b := Nat.mul_pos (by omega) (ch_pos (by omega))
/-- n C(n-1,b) = (n-b) C(n,b) -/
theorem ed_eq {n b : Nat} (h : b < n) : ed n b = (n - b) * ch n b := by
  obtain ⟨k, rfl⟩ : ∃ k, n = k + 1 := ⟨n - 1, by omega⟩
  unfold ed
  rw [show k + 1 - 1 = k from rfl, ch_b k b (by omega), ← ch_a (k + 1) b (by omega)]
/-- .. = (b+1) C(n,b+1) -/
theorem ed_eq2 {n b : Nat} (h : b < n) : ed n b = (b + 1) * ch n (b + 1) := by rw [ed_eq h, ch_a n b (by omega)]
def LL (n : Nat) : Nat → Nat
  | 0 => 1
  | d + 1 => Nat.lcm (LL n d) (ed n d)
theorem LL_pos {n : Nat} : ∀ {d : Nat}, d ≤ n → 0 < LL n d
  | 0, _ => Nat.one_pos
  | d + 1, h => Nat.lcm_pos (LL_pos (by omega)) (ed_pos (by omega))
theorem LL_dvd {n : Nat} : ∀ {d b : Nat}, b < d → ed n b ∣ LL n d
  | 0, _, h => absurd h (Nat.not_lt_zero _)
  | d + 1, b, h => by
    rcases Nat.lt_or_ge b d with c | c
    · exact Nat.dvd_trans (LL_dvd c) (Nat.dvd_lcm_left _ _)
    · have e : b = d := by omega
      subst e
      exact Nat.dvd_lcm_right _ _
theorem LL_mono {n : Nat} : ∀ {d k : Nat}, LL n d ∣ LL n (d + k)
  | d, 0 => Nat.dvd_refl _
  | d, k + 1 => Nat.dvd_trans (LL_mono (k := k)) (Nat.dvd_lcm_left _ _)
theorem LL_le_dvd {n d e : Nat} (h : d ≤ e) : LL n d ∣ LL n e := by
  obtain ⟨k, rfl⟩ : ∃ k, e = d + k := ⟨e - d, by omega⟩
  exact LL_mono
theorem ed_lt {n b : Nat} (h : n ≤ 60) : ed n b < 2 ^ 66 := by
  unfold ed
  have a := ch_le (n - 1) b
  have b' : 2 ^ (n - 1) ≤ 2 ^ 59 := Nat.pow_le_pow_right (by decide) (by omega)
  calc n * ch (n - 1) b ≤ 60 * 2 ^ 59 := Nat.mul_le_mul h (Nat.le_trans a b')
    _ < 2 ^ 66 := by decide
theorem LL_lt {n : Nat} (h : n ≤ 60) : ∀ d : Nat, LL n d < 2 ^ (66 * d + 1)
  | 0 => by show 1 < 2 ^ 1; decide
  | d + 1 => by
    have ih := LL_lt h d
    have e := ed_lt (b := d) h
    have l : Nat.lcm (LL n d) (ed n d) ≤ LL n d * ed n d := by
      rw [Nat.lcm]
      exact Nat.div_le_self _ _
    calc LL n (d + 1) ≤ LL n d * ed n d := l
      _ ≤ 2 ^ (66 * d + 1) * ed n d := Nat.mul_le_mul_right _ (Nat.le_of_lt ih)
      _ < 2 ^ (66 * d + 1) * 2 ^ 66 := Nat.mul_lt_mul_of_pos_left e (Nat.two_pow_pos _)
      _ = 2 ^ (66 * (d + 1) + 1) := by rw [← Nat.pow_add]; exact congrArg (2 ^ ·) (by omega)
/-- the width of a block at a level -/
def wid (n c b : Nat) : Nat := c / ed n b
/-- how many rests there are at a set of a size -/
def rst (n c b : Nat) : Nat := c / ch n b
section
variable {n c b d : Nat}
theorem wid_mul (h : LL n d ∣ c) (hb : b < d) : wid n c b * ed n b = c := Nat.div_mul_cancel (Nat.dvd_trans (LL_dvd hb) h)
theorem wid_pos (h : LL n d ∣ c) (hb : b < d) (hd : d ≤ n) (hc : 0 < c) : 0 < wid n c b := by
  have e := wid_mul h hb
  rcases Nat.eq_zero_or_pos (wid n c b) with z | z
  · rw [z, Nat.zero_mul] at e; omega
  · exact z
theorem rst_eq (h : LL n d ∣ c) (hb : b < d) (hd : d ≤ n) : rst n c b = wid n c b * (n - b) := by
  unfold rst
  have e := wid_mul h hb
  rw [ed_eq (by omega), ← Nat.mul_assoc] at e
  exact Nat.div_eq_of_eq_mul_left (ch_pos (by omega)) e.symm
theorem rst_eq2 (h : LL n d ∣ c) (hb : b < d) (hd : d ≤ n) : rst n c (b + 1) = wid n c b * (b + 1) := by
  unfold rst
  have e := wid_mul h hb
  rw [ed_eq2 (by omega), ← Nat.mul_assoc] at e
  exact Nat.div_eq_of_eq_mul_left (ch_pos (by omega)) e.symm
theorem rst_zero : rst n c 0 = c := by unfold rst; rw [ch_zero, Nat.div_one]
end
/-! ### sets of servers -/
/-- 0, 1, .. below n -/
def rg (n : Nat) : List Int := (List.range n).map fun (i : Nat) => (i : Int)
theorem rg_mem {n : Nat} {x : Int} : x ∈ rg n ↔ 0 ≤ x ∧ x < n := by
  unfold rg
  rw [List.mem_map]
  constructor
  · rintro ⟨i, hi, rfl⟩
    have := List.mem_range.mp hi
    omega
  · rintro ⟨h1, h2⟩
    exact ⟨x.toNat, List.mem_range.mpr (by omega), by omega⟩
theorem rg_length (n : Nat) : (rg n).length = n := by unfold rg; rw [List.length_map, List.length_range]
theorem rg_asc (n : Nat) : (rg n).Pairwise (· < ·) := by
  unfold rg
  rw [List.pairwise_map]
  exact List.pairwise_lt_range.imp fun {a b} h => by omega
theorem rg_get {n i : Nat} (h : i < n) : (rg n)[i]? = some (i : Int) := by
  unfold rg
  rw [List.getElem?_map, List.getElem?_range h]
  rfl
/-- ascending, of servers -/
structure Good (n : Nat) (M : List Int) : Prop where
  asc : M.Pairwise (· < ·)
  mem : ∀ x ∈ M, 0 ≤ x ∧ x < n
theorem asc_nodup {l : List Int} (h : l.Pairwise (· < ·)) : l.Nodup := h.imp fun {a b} h => by omega
def outs (n : Nat) (M : List Int) : List Int := (rg n).filter fun x => !decide (x ∈ M)
theorem outs_mem {n : Nat} {M : List Int} {x : Int} : x ∈ outs n M ↔ (0 ≤ x ∧ x < n) ∧ x ∉ M := by
  unfold outs
  rw [List.mem_filter, rg_mem]
  simp
theorem outs_asc (n : Nat) (M : List Int) : (outs n M).Pairwise (· < ·) := (rg_asc n).filter _
theorem outs_good (n : Nat) (M : List Int) : Good n (outs n M) := ⟨outs_asc n M, fun _ h => (outs_mem.mp h).1⟩
theorem filter_in {n : Nat} {M : List Int} (g : Good n M) : (rg n).filter (fun x => decide (x ∈ M)) = M :=
  asc_uniq ((rg_asc n).filter _) g.asc fun x => by
    rw [List.mem_filter, rg_mem, decide_eq_true_eq]
    exact ⟨fun h => h.2, fun h => ⟨g.mem x h, h⟩⟩
theorem len_parts {α : Type} (p : α → Bool) : ∀ l : List α, (l.filter p).length + (l.filter fun x => !p x).length = l.length
  | [] => rfl
  | x :: l => by
    have ih := len_parts p l
    rw [List.filter_cons, List.filter_cons]
    cases h : p x with
    | true => simp; omega
    | false => simp; omega
theorem outs_length {n : Nat} {M : List Int} (g : Good n M) : (outs n M).length + M.length = n := by
  have e := len_parts (fun x => decide (x ∈ M)) (rg n)
  rw [filter_in g, rg_length] at e
  have e2 : (outs n M).length = ((rg n).filter fun x => !decide (x ∈ M)).length := rfl
  omega
theorem good_le {n : Nat} {M : List Int} (g : Good n M) : M.length ≤ n := by have := outs_length g; omega
theorem good_nil (n : Nat) : Good n [] := ⟨.nil, fun _ h => by cases h⟩
theorem srt_good {n : Nat} {M : List Int} {s : Int} (g : Good n M) (hs : 0 ≤ s ∧ s < n) (hn : s ∉ M) : Good n (srt (M ++ [s])) := by
  refine ⟨srt_asc ?_, fun x hx => ?_⟩
  · rw [List.nodup_append]
    refine ⟨asc_nodup g.asc, by simp, fun a ha b hb => ?_⟩
    have : b = s := by simpa using hb
    rw [this]
    exact fun e => hn (e ▸ ha)
  · have h := (srt_perm (M ++ [s])).mem_iff.mp hx
    rcases List.mem_append.mp h with h | h
    · exact g.mem x h
    · have : x = s := by simpa using h
      rw [this]; exact hs
theorem srt_len (l : List Int) : (srt l).length = l.length := (srt_perm l).length_eq
theorem mem_srt {l : List Int} {x : Int} : x ∈ srt l ↔ x ∈ l := (srt_perm l).mem_iff
/-! ### places in lists without doubles -/
theorem idx_ne {l : List Int} {a x : Int} (h : a ≠ x) : (a :: l).idxOf x = l.idxOf x + 1 := by
  rw [List.idxOf_cons]
  have : (a == x) = false := beq_eq_false_iff_ne.mpr h
  rw [this]
  rfl
theorem idx_get {l : List Int} (h : l.Nodup) {i : Nat} {x : Int} (e : l[i]? = some x) : l.idxOf x = i := by
  induction l generalizing i with
  | nil => simp at e
  | cons a l ih =>
    rw [List.nodup_cons] at h
    cases i with
    | zero =>
      have : a = x := by simpa using e
      subst this
      simp
    | succ i =>
      have e2 : l[i]? = some x := by simpa using e
      have hx : x ∈ l := List.mem_of_getElem? e2
      have hne : a ≠ x := fun z => h.1 (z ▸ hx)
      rw [idx_ne hne, ih h.2 e2]
theorem get_idx {l : List Int} {x : Int} (h : x ∈ l) : l[l.idxOf x]? = some x := by
  induction l with
  | nil => cases h
  | cons a l ih =>
    by_cases e : a = x
    · subst e; simp
    · rw [idx_ne e]
      rcases List.mem_cons.mp h with q | q
      · exact absurd q.symm e
      · simpa using ih q
theorem idx_lt {l : List Int} {x : Int} (h : x ∈ l) : l.idxOf x < l.length := (List.getElem?_eq_some_iff.mp (get_idx h)).1
theorem first_of {l : List Int} (h : l.Nodup) {i : Nat} {x : Int} (e : l[i]? = some x) : ∀ j, j < i → l[j]? ≠ some x := fun j hj q => by
  have a := idx_get h e
  have b := idx_get h q
  omega
/-! ### a step and its inverse -/
def stepS (n c : Nat) (M : List Int) (r : Nat) : Int := (outs n M).getD (r / wid n c M.length) 0
def stepM (n c : Nat) (M : List Int) (r : Nat) : List Int := srt (M ++ [stepS n c M r])
def stepR (n c : Nat) (M : List Int) (r : Nat) : Nat := (stepM n c M r).idxOf (stepS n c M r) * wid n c M.length + r % wid n c M.length
def backS (n c : Nat) (M : List Int) (r : Nat) : Int := M.getD (r / wid n c (M.length - 1)) 0
def backM (n c : Nat) (M : List Int) (r : Nat) : List Int := M.filter fun x => !decide (x = backS n c M r)
def backR (n c : Nat) (M : List Int) (r : Nat) : Nat := (outs n (backM n c M r)).idxOf (backS n c M r) * wid n c (M.length - 1) + r % wid n c (M.length - 1)
section
variable {n c d : Nat} {M : List Int} {r : Nat}
theorem getD_of {α : Type} {l : List α} {i : Nat} {x a : α} (h : l[i]? = some x) : l.getD i a = x := by rw [List.getD_eq_getElem?_getD, h]; rfl
theorem stepS_get (g : Good n M) (h : LL n d ∣ c) (hb : M.length < d) (hd : d ≤ n) (hc : 0 < c) (hr : r < rst n c M.length) : (outs n M)[r / wid n c M.length]? = some (stepS n c M r) := by
  have hw := wid_pos h hb hd hc
  rw [rst_eq h hb hd] at hr
  have hl := outs_length g
  have hq : r / wid n c M.length < (outs n M).length := by
    have : r / wid n c M.length < n - M.length := Nat.div_lt_of_lt_mul hr
    omega
  have e := List.getElem?_eq_getElem hq
  rw [e]
  unfold stepS
  rw [getD_of e]
theorem stepS_mem (g : Good n M) (h : LL n d ∣ c) (hb : M.length < d) (hd : d ≤ n) (hc : 0 < c) (hr : r < rst n c M.length) : (0 ≤ stepS n c M r ∧ stepS n c M r < n) ∧ stepS n c M r ∉ M :=
  outs_mem.mp (List.mem_of_getElem? (stepS_get g h hb hd hc hr))
theorem step_good (g : Good n M) (h : LL n d ∣ c) (hb : M.length < d) (hd : d ≤ n) (hc : 0 < c) (hr : r < rst n c M.length) : Good n (stepM n c M r) ∧ (stepM n c M r).length = M.length + 1 ∧ stepR n c M r < rst n c (M.length + 1) := by
  obtain ⟨a, b⟩ := stepS_mem g h hb hd hc hr
  have hw := wid_pos h hb hd hc
  have hl : (stepM n c M r).length = M.length + 1 := by unfold stepM; rw [srt_len, List.length_append]; rfl
  refine ⟨srt_good g a b, hl, ?_⟩
  have hm : stepS n c M r ∈ stepM n c M r := by unfold stepM; rw [mem_srt]; simp
  have hi := idx_lt hm
  rw [hl] at hi
  rw [rst_eq2 h hb hd]
  unfold stepR
  have h1 := Nat.mod_lt r hw
  have h2 : (List.idxOf (stepS n c M r) (stepM n c M r) + 1) * wid n c M.length ≤ (M.length + 1) * wid n c M.length := Nat.mul_le_mul_right _ hi
  rw [Nat.add_mul, Nat.one_mul] at h2
  rw [Nat.mul_comm (wid n c M.length)]
  omega
theorem back_get (g : Good n M) (h : LL n M.length ∣ c) (h0 : 0 < M.length) (hc : 0 < c) (hr : r < rst n c M.length) : M[r / wid n c (M.length - 1)]? = some (backS n c M r) := by
  have hd := good_le g
  obtain ⟨b, hb⟩ : ∃ b, M.length = b + 1 := ⟨M.length - 1, by omega⟩
  have hw := wid_pos h (b := M.length - 1) (by omega) hd hc
  have e := rst_eq2 h (b := M.length - 1) (by omega) hd
  rw [show M.length - 1 + 1 = M.length by omega] at e
  rw [e] at hr
  have hq : r / wid n c (M.length - 1) < M.length := Nat.div_lt_of_lt_mul hr
  have q := List.getElem?_eq_getElem hq
  rw [q]
  unfold backS
  rw [getD_of q]
theorem filter_ne {x : Int} : ∀ {l : List Int}, l.Pairwise (· < ·) → x ∈ l → (l.filter fun y => !decide (y = x)).length + 1 = l.length
  | [], _, h => by cases h
  | a :: l, hp, h => by
    rw [List.pairwise_cons] at hp
    by_cases e : a = x
    · subst e
      have : l.filter (fun y => !decide (y = a)) = l := List.filter_eq_self.mpr fun y hy => by
        have := hp.1 y hy
        simp; omega
      rw [List.filter_cons]
      simp [this]
    · have hx : x ∈ l := (List.mem_cons.mp h).resolve_left fun z => e z.symm
      have ih := filter_ne hp.2 hx
      rw [List.filter_cons]
      simp [e]
      exact ih
theorem back_good (g : Good n M) (h : LL n M.length ∣ c) (h0 : 0 < M.length) (hc : 0 < c) (hr : r < rst n c M.length) :
    Good n (backM n c M r) ∧ (backM n c M r).length + 1 = M.length ∧ backS n c M r ∈ outs n (backM n c M r) ∧ backR n c M r < rst n c (M.length - 1) := by
  have hm := List.mem_of_getElem? (back_get g h h0 hc hr)
  have hd := good_le g
  have gb : Good n (backM n c M r) := ⟨g.asc.filter _, fun x hx => g.mem x (List.mem_filter.mp hx).1⟩
  have hl := filter_ne g.asc hm
  have hl : (backM n c M r).length + 1 = M.length := hl
  have ho : backS n c M r ∈ outs n (backM n c M r) := outs_mem.mpr ⟨g.mem _ hm, fun q => by
    have := (List.mem_filter.mp q).2
    simp at this⟩
  refine ⟨gb, hl, ho, ?_⟩
  have hi := idx_lt ho
  have ho2 := outs_length gb
  have hw := wid_pos h (b := M.length - 1) (by omega) hd hc
  rw [rst_eq h (b := M.length - 1) (by omega) hd]
  unfold backR
  have h1 := Nat.mod_lt r hw
  have hi2 : List.idxOf (backS n c M r) (outs n (backM n c M r)) + 1 ≤ n - (M.length - 1) := by omega
  have h2 := Nat.mul_le_mul_right (wid n c (M.length - 1)) hi2
  rw [Nat.add_mul, Nat.one_mul] at h2
  rw [Nat.mul_comm (wid n c (M.length - 1))]
  omega
/-- forward behind back -/
theorem step_back (g : Good n M) (h : LL n M.length ∣ c) (h0 : 0 < M.length) (hc : 0 < c) (hr : r < rst n c M.length) :
    stepS n c (backM n c M r) (backR n c M r) = backS n c M r ∧ stepM n c (backM n c M r) (backR n c M r) = M ∧ stepR n c (backM n c M r) (backR n c M r) = r := by
  obtain ⟨gb, hl, ho, hb⟩ := back_good g h h0 hc hr
  have hd := good_le g
  have hw := wid_pos h (b := M.length - 1) (by omega) hd hc
  have hm := List.mem_of_getElem? (back_get g h h0 hc hr)
  have el : (backM n c M r).length = M.length - 1 := by omega
  have hdiv : backR n c M r / wid n c (M.length - 1) = (outs n (backM n c M r)).idxOf (backS n c M r) := by
    unfold backR
    rw [Nat.mul_comm, Nat.mul_add_div hw, Nat.div_eq_of_lt (Nat.mod_lt r hw), Nat.add_zero]
  have hmod : backR n c M r % wid n c (M.length - 1) = r % wid n c (M.length - 1) := by
    unfold backR
    rw [Nat.mul_comm, Nat.mul_add_mod, Nat.mod_mod]
  have e1 : stepS n c (backM n c M r) (backR n c M r) = backS n c M r := by
    unfold stepS
    rw [el, hdiv]
    exact getD_of (get_idx ho)
  have e2 : stepM n c (backM n c M r) (backR n c M r) = M := by
    unfold stepM
    rw [e1]
    refine asc_uniq (srt_asc ?_) g.asc fun x => ?_
    · rw [List.nodup_append]
      refine ⟨asc_nodup gb.asc, by simp, fun a ha b hb => ?_⟩
      have e : b = backS n c M r := by simpa using hb
      rw [e]
      rintro rfl
      exact (outs_mem.mp ho).2 ha
    · rw [mem_srt, List.mem_append]
      constructor
      · rintro (q | q)
        · exact (List.mem_filter.mp q).1
        · have : x = backS n c M r := by simpa using q
          rw [this]; exact hm
      · intro q
        by_cases e : x = backS n c M r
        · exact .inr (by simp [e])
        · exact .inl (List.mem_filter.mpr ⟨q, by simp [e]⟩)
  refine ⟨e1, e2, ?_⟩
  unfold stepR
  rw [e1, e2, el, hmod, idx_get (asc_nodup g.asc) (back_get g h h0 hc hr), Nat.mul_comm]
  exact Nat.div_add_mod r _
end
/-! ### walks -/
/-- so many steps from a place: the servers, the set, the rest -/
def walkP (n c : Nat) : Nat → List Int → Nat → List Int × List Int × Nat
  | 0, M, r => ([], M, r)
  | k + 1, M, r => let w := walkP n c k (stepM n c M r) (stepR n c M r); (stepS n c M r :: w.1, w.2)
theorem walkP_add (n c : Nat) : ∀ (j k : Nat) (M : List Int) (r : Nat), walkP n c (j + k) M r = ((walkP n c j M r).1 ++ (walkP n c k (walkP n c j M r).2.1 (walkP n c j M r).2.2).1, (walkP n c k (walkP n c j M r).2.1 (walkP n c j M r).2.2).2)
  | 0, k, M, r => by simp [walkP]
  | j + 1, k, M, r => by
    rw [show j + 1 + k = (j + k) + 1 by omega]
    simp only [walkP]
    rw [walkP_add n c j k]
    rfl
theorem walkP_last (n c k : Nat) (M : List Int) (r : Nat) : walkP n c (k + 1) M r = ((walkP n c k M r).1 ++ [stepS n c (walkP n c k M r).2.1 (walkP n c k M r).2.2], stepM n c (walkP n c k M r).2.1 (walkP n c k M r).2.2, stepR n c (walkP n c k M r).2.1 (walkP n c k M r).2.2) := by
  rw [walkP_add]
  rfl
/-- all the way back -/
def numP (n c : Nat) : Nat → List Int → Nat → Nat
  | 0, _, r => r
  | k + 1, M, r => numP n c k (backM n c M r) (backR n c M r)
section
variable {n c d : Nat}
theorem walk_good (h : LL n d ∣ c) (hd : d ≤ n) (hc : 0 < c) : ∀ (k : Nat) (M : List Int) (r : Nat), Good n M → M.length + k ≤ d → r < rst n c M.length →
    Good n (walkP n c k M r).2.1 ∧ (walkP n c k M r).2.1.length = M.length + k ∧ (walkP n c k M r).2.2 < rst n c (M.length + k) ∧ (walkP n c k M r).1.length = k ∧ ((walkP n c k M r).2.1).Perm (M ++ (walkP n c k M r).1)
  | 0, M, r, g, hk, hr => ⟨g, rfl, hr, rfl, by simp [walkP]⟩
  | k + 1, M, r, g, hk, hr => by
    obtain ⟨a, b, e⟩ := step_good g h (by omega) hd hc hr
    obtain ⟨i1, i2, i3, i4, i5⟩ := walk_good h hd hc k (stepM n c M r) (stepR n c M r) a (by omega) (by rw [b]; exact e)
    refine ⟨i1, ?_, ?_, ?_, ?_⟩
    · show (walkP n c k _ _).2.1.length = _
      rw [i2, b]; omega
    · show (walkP n c k _ _).2.2 < _
      rw [b, show M.length + 1 + k = M.length + (k + 1) by omega] at i3
      exact i3
    · show (stepS n c M r :: (walkP n c k _ _).1).length = _
      rw [List.length_cons, i4]
    · show ((walkP n c k _ _).2.1).Perm (M ++ stepS n c M r :: (walkP n c k _ _).1)
      refine i5.trans ?_
      refine ((srt_perm (M ++ [stepS n c M r])).append_right _).trans ?_
      rw [List.append_assoc]
      exact .refl _
theorem num_back (h : LL n d ∣ c) (hd : d ≤ n) (hc : 0 < c) : ∀ (k : Nat) (M : List Int) (r : Nat), Good n M → M.length = k → k ≤ d → r < rst n c k →
    numP n c k M r < c ∧ (walkP n c k [] (numP n c k M r)).2 = (M, r)
  | 0, M, r, g, hk, _, hr => by
    have : M = [] := List.eq_nil_of_length_eq_zero hk
    subst this
    rw [rst_zero] at hr
    exact ⟨hr, rfl⟩
  | k + 1, M, r, g, hk, hkd, hr => by
    have hL : LL n M.length ∣ c := Nat.dvd_trans (LL_le_dvd (by omega)) h
    obtain ⟨gb, hl, ho, hb⟩ := back_good g hL (by omega) hc (by rw [hk]; exact hr)
    obtain ⟨i1, i2⟩ := num_back h hd hc k (backM n c M r) (backR n c M r) gb (by omega) (by omega) (by rw [show M.length - 1 = k by omega] at hb; exact hb)
    refine ⟨i1, ?_⟩
    rw [walkP_last]
    show (stepM n c (walkP n c k [] (numP n c k _ _)).2.1 (walkP n c k [] (numP n c k _ _)).2.2, stepR n c (walkP n c k [] (numP n c k _ _)).2.1 (walkP n c k [] (numP n c k _ _)).2.2) = _
    rw [i2]
    obtain ⟨_, e2, e3⟩ := step_back g hL (by omega) hc (by rw [hk]; exact hr)
    rw [e2, e3]
end
end EM

set_option Elab.async false
set_option linter.all false
set_option maxRecDepth 100000
set_option maxHeartbeats 4000000
namespace Tx
open PySem PySem.Spec PyProof.Rows L2 DL
/-! ### the text: where each def stands, its names, its reading, and that the reading is its own -/
def topS (i : Nat) : Stmt := PySem.Challenge.pw_evenfailover_k90_whole_great_failures_by.main.body.getD i (.Pass ⟨0, 0, 0, 0⟩)
def frees : List Str := ["len", "abs", "int", "range", "isinstance", "bool", "min", "list", "tuple", "sorted", "max", "zip"]
abbrev Free (mg : Str → Option Value) : Prop := ∀ x : Str, x ∈ frees → mg x = none
abbrev cC_Cluster (K : PySem.W.Frag) : Addr := He.ga K "Cluster"
def fields_Cluster : List Str := ["depth", "n", "failures", "factor", "count", "dead", "done"]
abbrev CF_Cluster (K : PySem.W.Frag) : Prop := Cls K (cC_Cluster K) ∧ ∀ f : Str, f ∈ fields_Cluster → NoAttr K (cC_Cluster K) f
/-! _law_stream -/
abbrev s_law_stream : Stmt := topS 41
abbrev N_law_stream : List Str := ["_law_script", "_law_k", "_law_cell", "_law_own"]
theorem sc_law_stream : FnScope N_law_stream ["_law_script", "_law_k"] (defScope s_law_stream) := ⟨rfl, rfl, rfl, by decide +kernel, rfl, by decide +kernel, by decide +kernel⟩
def t_law_stream (w : World) (K : PySem.W.Frag) (Sok : List V → Prop) : TS :=
  (tSeq (tAsg (tIf (tTest (tOp rLt (tVar 1) (tCB (rLenB K) (tCons (tVar 0) tNil)))) (tOp (rIx K) (tVar 0) (tVar 1)) (tOp (rAddA K) (tOp (rMulA K) (tC (.int 3)) (tVar 1)) (tCB (rLenB K) (tCons (tVar 0) tNil)))) (gName 2))
  (tSeq (tAsg (tOp (rMulA K) (tOp rMod (tCB (rAbs) (tCons (tVar 2) tNil)) (tCB rIntBig (tCons (tOp (rAddA K) (tC (.str "1")) (tOp rRep0 (tC (.str "0")) (tC (.int 900)))) tNil))) (tCB (rInt1) (tCons (tOp rGe (tCB (rAbs) (tCons (tVar 2) tNil)) (tOp rPowW (tC (.int 10)) (tC (.int 18)))) tNil))) (gName 3))
  (tRet (tLst (tCons (tVar 3) (tCons (tOp rMod (tOp (rMulA K) (tOp (rAddA K) (tOp (rAddA K) (tOp rMod (tVar 2) (tC (.int 2305843009213693951))) (tOp (rMulA K) (tOp (rMulA K) (tC (.int 7919)) (tVar 1)) (tVar 1))) (tC (.int 11))) (tC (.int 48271))) (tC (.int 2305843009213693951))) tNil))))))
theorem der_law_stream {P : Program} {w : World} {K : PySem.W.Frag} {mg : Str → Option Value} {base : Heap} {Sok : List V → Prop} (fr : Free mg) (hL : PySem.W.nsIn K cStatics BigT.keyDig = some none) {f : Addr} {cdv : Value} {A : Around} {outer : List Env} {s : Shared} {H : Hp} {E : XK} (hr : Room 0 (A.deeper (envOfC "_law_stream" (defScope s_law_stream) s.heap.objs.size f cdv))) :
    PSs (cxOf CX0 P w K mg base N_law_stream "_law_stream" (defScope s_law_stream) f cdv A outer s H E).nox (defBody s_law_stream) (t_law_stream w K Sok) := by
  have nd : (N_law_stream).Nodup := sc_law_stream.nd
  exact (pss_cons (ps_set (i := 2) nd rfl (Or.inl rfl) (pe_ifExp (pt_cmpR op_lt (pv 1) (pe_callB call_len (by rfl) (fr "len" (by decide)) (by decide +kernel) (pa_cons (pv 0) pa_nil)) (nomark _)) (pe_ix ix_seq (pv 0) (pv 1) (fun _ _ => rfl)) (pe_op op_addA (pe_op op_mulA pe_int (pv 1)) (pe_callB call_len (by rfl) (fr "len" (by decide)) (by decide +kernel) (pa_cons (pv 0) pa_nil)))))
    (pss_cons (ps_set (i := 3) nd rfl (Or.inl rfl) (pe_op op_mulA (pe_op op_mod (pe_callB call_abs (by rfl) (fr "abs" (by decide)) (by decide +kernel) (pa_cons (pv 2) pa_nil)) (pe_callTy (cr_intBig hL) (by rfl) (fr "int" (by decide)) (by decide +kernel) (pa_cons (pe_op op_addA pe_str (pe_op op_rep0 pe_str pe_int)) pa_nil))) (pe_callTy call_int1 (by rfl) (fr "int" (by decide)) (by decide +kernel) (pa_cons (pe_cmpR op_ge (pe_callB call_abs (by rfl) (fr "abs" (by decide)) (by decide +kernel) (pa_cons (pv 2) pa_nil)) (pe_op op_powW pe_int pe_int) (nomark _)) pa_nil))))
    (pss_one (ps_ret (pe_lst (pa_cons (pv 3) (pa_cons (pe_op op_mod (pe_op op_mulA (pe_op op_addA (pe_op op_addA (pe_op op_mod (pv 2) pe_int) (pe_op op_mulA (pe_op op_mulA pe_int (pv 1)) (pv 1))) pe_int) pe_int) pe_int) pa_nil)))))))
/-! _law_draw -/
abbrev s_law_draw : Stmt := topS 42
abbrev N_law_draw : List Str := ["_law_stream_here", "_law_below", "_law_digit"]
theorem sc_law_draw : FnScope N_law_draw ["_law_stream_here", "_law_below"] (defScope s_law_draw) := ⟨rfl, rfl, rfl, by decide +kernel, rfl, by decide +kernel, by decide +kernel⟩
def t_law_draw (w : World) (K : PySem.W.Frag) (Sok : List V → Prop) : TS :=
  (tSeq (tIfS (tTest (tOp rGt (tOp (rIx K) (tVar 0) (tC (.int 0))) (tC (.int 0)))) (tSeq (tAsg (tOp rMod (tOp (rIx K) (tVar 0) (tC (.int 0))) (tVar 1)) (gName 2))
  (tSeq (tAsg (tOp rFdiv (tOp (rIx K) (tVar 0) (tC (.int 0))) (tVar 1)) (gSub (tVar 0) (tC (.int 0)) rSetL))
  (tRet (tVar 2)))) tNext)
  (tSeq (tAsg (tOp rMod (tOp (rAddA K) (tOp (rMulA K) (tOp (rIx K) (tVar 0) (tC (.int 1))) (tC (.int 1181783497276652981))) (tC (.int 12345678910987))) (tC (.int 2305843009213693951))) (gSub (tVar 0) (tC (.int 1)) rSetL))
  (tRet (tOp rMod (tOp rFdiv (tOp rMod (tOp (rMulA K) (tOp rFdiv (tOp (rIx K) (tVar 0) (tC (.int 1))) (tC (.int 65537))) (tOp (rAddA K) (tOp rMod (tOp (rIx K) (tVar 0) (tC (.int 1))) (tC (.int 65537))) (tC (.int 3)))) (tC (.int 2305843009213693921))) (tC (.int 97))) (tVar 1)))))
theorem der_law_draw {P : Program} {w : World} {K : PySem.W.Frag} {mg : Str → Option Value} {base : Heap} {Sok : List V → Prop} (fr : Free mg) {f : Addr} {cdv : Value} {A : Around} {outer : List Env} {s : Shared} {H : Hp} {E : XK} (hr : Room 0 (A.deeper (envOfC "_law_draw" (defScope s_law_draw) s.heap.objs.size f cdv))) :
    PSs (cxOf CX0 P w K mg base N_law_draw "_law_draw" (defScope s_law_draw) f cdv A outer s H E).nox (defBody s_law_draw) (t_law_draw w K Sok) := by
  have nd : (N_law_draw).Nodup := sc_law_draw.nd
  exact (pss_cons (ps_if (pt_cmpR op_gt (pe_ix ix_seq (pv 0) pe_int (fun _ _ => rfl)) pe_int (nomark _)) (pss_cons (ps_set (i := 2) nd rfl (Or.inl rfl) (pe_op op_mod (pe_ix ix_seq (pv 0) pe_int (fun _ _ => rfl)) (pv 1)))
    (pss_cons (ps_asg (pe_op op_fdivW (pe_ix ix_seq (pv 0) pe_int (fun _ _ => rfl)) (pv 1)) (pg_sub (pv 0) pe_int set_list))
    (pss_one (ps_ret (pv 2))))) pss_nil)
    (pss_cons (ps_asg (pe_op op_mod (pe_op op_addA (pe_op op_mulA (pe_ix ix_seq (pv 0) pe_int (fun _ _ => rfl)) pe_int) pe_int) pe_int) (pg_sub (pv 0) pe_int set_list))
    (pss_one (ps_ret (pe_op op_mod (pe_op op_fdivW (pe_op op_mod (pe_op op_mulA (pe_op op_fdivW (pe_ix ix_seq (pv 0) pe_int (fun _ _ => rfl)) pe_int) (pe_op op_addA (pe_op op_mod (pe_ix ix_seq (pv 0) pe_int (fun _ _ => rfl)) pe_int) pe_int)) pe_int) pe_int) (pv 1))))))
/-! _law_comb -/
abbrev s_law_comb : Stmt := topS 44
abbrev N_law_comb : List Str := ["_law_n", "_law_k", "_law_found", "_law_step"]
theorem sc_law_comb : FnScope N_law_comb ["_law_n", "_law_k"] (defScope s_law_comb) := ⟨rfl, rfl, rfl, by decide +kernel, rfl, by decide +kernel, by decide +kernel⟩
def t_law_comb (w : World) (K : PySem.W.Frag) (Sok : List V → Prop) : TS :=
  (tSeq (tAsg (tC (.int 1)) (gName 2))
  (tSeq (tFor (iRng1 (tCons (tVar 1) tNil)) (gName 3) (tAsg (tOp rFdiv (tOp (rMulA K) (tVar 2) (tOp rSubI (tVar 0) (tVar 3))) (tOp (rAddA K) (tVar 3) (tC (.int 1)))) (gName 2)))
  (tRet (tIf (tTest (tOp rLe (tVar 1) (tVar 0))) (tVar 2) (tC (.int 0))))))
theorem der_law_comb {P : Program} {w : World} {K : PySem.W.Frag} {mg : Str → Option Value} {base : Heap} {Sok : List V → Prop} (fr : Free mg) {f : Addr} {cdv : Value} {A : Around} {outer : List Env} {s : Shared} {H : Hp} {E : XK} (hr : Room 0 (A.deeper (envOfC "_law_comb" (defScope s_law_comb) s.heap.objs.size f cdv))) :
    PSs (cxOf CX0 P w K mg base N_law_comb "_law_comb" (defScope s_law_comb) f cdv A outer s H E).nox (defBody s_law_comb) (t_law_comb w K Sok) := by
  have nd : (N_law_comb).Nodup := sc_law_comb.nd
  exact (pss_cons (ps_set (i := 2) nd rfl (Or.inl rfl) pe_int)
    (pss_cons (ps_for PassesOwn.never rfl (pi_range1 (by rfl) (fr "range" (by decide)) (pa_cons (pv 1) pa_nil)) (pg_name (i := 3) nd rfl (Or.inl rfl)) (pss_one (ps_set (i := 2) nd rfl (Or.inl rfl) (pe_op op_fdivW (pe_op op_mulA (pv 2) (pe_op op_sub (pv 0) (pv 3))) (pe_op op_addA (pv 3) pe_int)))))
    (pss_one (ps_ret (pe_ifExp (pt_cmpR op_le (pv 1) (pv 0) (nomark _)) (pv 2) pe_int)))))
/-! _law_gcd -/
abbrev s_law_gcd : Stmt := topS 45
abbrev N_law_gcd : List Str := ["_law_a", "_law_b"]
theorem sc_law_gcd : FnScope N_law_gcd ["_law_a", "_law_b"] (defScope s_law_gcd) := ⟨rfl, rfl, rfl, by decide +kernel, rfl, by decide +kernel, by decide +kernel⟩
def t_law_gcd (w : World) (K : PySem.W.Frag) (Sok : List V → Prop) : TS :=
  (tSeq (tWhile (tTest (tOp rGt (tVar 1) (tC (.int 0)))) (tPar 0 1 (tCons (tVar 1) (tCons (tOp rMod (tVar 0) (tVar 1)) tNil))))
  (tRet (tVar 0)))
theorem der_law_gcd {P : Program} {w : World} {K : PySem.W.Frag} {mg : Str → Option Value} {base : Heap} {Sok : List V → Prop} (fr : Free mg) {f : Addr} {cdv : Value} {A : Around} {outer : List Env} {s : Shared} {H : Hp} {E : XK} (hr : Room 0 (A.deeper (envOfC "_law_gcd" (defScope s_law_gcd) s.heap.objs.size f cdv))) :
    PSs (cxOf CX0 P w K mg base N_law_gcd "_law_gcd" (defScope s_law_gcd) f cdv A outer s H E).nox (defBody s_law_gcd) (t_law_gcd w K Sok) := by
  have nd : (N_law_gcd).Nodup := sc_law_gcd.nd
  exact (pss_cons (ps_while PassesOwn.never (pt_cmpR op_gt (pv 1) pe_int (nomark _)) (pss_one (ps_par (i := 0) (j := 1) rfl nd rfl rfl (by decide) rfl rfl (pa_cons (pv 1) (pa_cons (pe_op op_mod (pv 0) (pv 1)) pa_nil)) (by rfl))))
    (pss_one (ps_ret (pv 0))))
/-! _law_least -/
abbrev s_law_least : Stmt := topS 46
abbrev N_law_least : List Str := ["_law_n", "_law_depth", "_law_found", "_law_size", "_law_part"]
theorem sc_law_least : FnScope N_law_least ["_law_n", "_law_depth"] (defScope s_law_least) := ⟨rfl, rfl, rfl, by decide +kernel, rfl, by decide +kernel, by decide +kernel⟩
def t_law_least (w : World) (K : PySem.W.Frag) (Sok : List V → Prop) (pre_law_comb : Pre) (pre_law_gcd : Pre) : TS :=
  (tSeq (tAsg (tC (.int 1)) (gName 2))
  (tSeq (tFor (iRng1 (tCons (tVar 1) tNil)) (gName 3) (tSeq (tAsg (tOp (rMulA K) (tVar 0) (tCall (spD K Sok 2 pre_law_comb) [] E0 (tCons (tOp rSubI (tVar 0) (tC (.int 1))) (tCons (tVar 3) tNil)))) (gName 4))
  (tAsg (tOp rFdiv (tOp (rMulA K) (tVar 2) (tVar 4)) (tCall (spD K Sok 2 pre_law_gcd) [] E0 (tCons (tVar 2) (tCons (tVar 4) tNil)))) (gName 2))))
  (tRet (tVar 2))))
theorem der_law_least {P : Program} {w : World} {K : PySem.W.Frag} {mg : Str → Option Value} {base : Heap} {Sok : List V → Prop} {pre_law_comb : Pre} {pre_law_gcd : Pre} (fr : Free mg) (c_law_comb : C8.Cal P w K mg base 1 "_law_comb" (spD K Sok 2 pre_law_comb) []) (c_law_gcd : C8.Cal P w K mg base 1 "_law_gcd" (spD K Sok 2 pre_law_gcd) []) {f : Addr} {cdv : Value} {A : Around} {outer : List Env} {s : Shared} {H : Hp} {E : XK} (hr : Room 1 (A.deeper (envOfC "_law_least" (defScope s_law_least) s.heap.objs.size f cdv))) :
    PSs (cxOf CX0 P w K mg base N_law_least "_law_least" (defScope s_law_least) f cdv A outer s H E).nox (defBody s_law_least) (t_law_least w K Sok pre_law_comb pre_law_gcd) := by
  have nd : (N_law_least).Nodup := sc_law_least.nd
  exact (pss_cons (ps_set (i := 2) nd rfl (Or.inl rfl) pe_int)
    (pss_cons (ps_for PassesOwn.never rfl (pi_range1 (by rfl) (fr "range" (by decide)) (pa_cons (pv 1) pa_nil)) (pg_name (i := 3) nd rfl (Or.inl rfl)) (pss_cons (ps_set (i := 4) nd rfl (Or.inl rfl) (pe_op op_mulA (pv 0) (C8.pe_c c_law_comb hr (by decide) (by rfl) (pa_cons (pe_op op_sub (pv 0) pe_int) (pa_cons (pv 3) pa_nil)))))
    (pss_one (ps_set (i := 2) nd rfl (Or.inl rfl) (pe_op op_fdivW (pe_op op_mulA (pv 2) (pv 4)) (C8.pe_c c_law_gcd hr (by decide) (by rfl) (pa_cons (pv 2) (pa_cons (pv 4) pa_nil))))))))
    (pss_one (ps_ret (pv 2)))))
/-! is_integer_cluster -/
abbrev s_is_integer_cluster : Stmt := topS 37
abbrev N_is_integer_cluster : List Str := ["thing", "low", "high"]
theorem sc_is_integer_cluster : FnScope N_is_integer_cluster ["thing", "low", "high"] (defScope s_is_integer_cluster) := ⟨rfl, rfl, rfl, by decide +kernel, rfl, by decide +kernel, by decide +kernel⟩
def t_is_integer_cluster (w : World) (K : PySem.W.Frag) (Sok : List V → Prop) : TS :=
  (tRet (tAndV (tCB (rIsi K) (tCons (tVar 0) (tCons (tC (.ty "int")) tNil))) (tAndV (tNotV (tCB (rIsi K) (tCons (tVar 0) (tCons (tC (.ty "bool")) tNil)))) (tChain rLe rLe (tVar 1) (tVar 0) (tVar 2)))))
theorem der_is_integer_cluster {P : Program} {w : World} {K : PySem.W.Frag} {mg : Str → Option Value} {base : Heap} {Sok : List V → Prop} (fr : Free mg) {f : Addr} {cdv : Value} {A : Around} {outer : List Env} {s : Shared} {H : Hp} {E : XK} (hr : Room 0 (A.deeper (envOfC "is_integer" (defScope s_is_integer_cluster) s.heap.objs.size f cdv))) :
    PSs (cxOf CX0 P w K mg base N_is_integer_cluster "is_integer" (defScope s_is_integer_cluster) f cdv A outer s H E).nox (defBody s_is_integer_cluster) (t_is_integer_cluster w K Sok) := by
  have nd : (N_is_integer_cluster).Nodup := sc_is_integer_cluster.nd
  exact (pss_one (ps_ret (pe_and (pe_callB call_isi (by rfl) (fr "isinstance" (by decide)) (by decide +kernel) (pa_cons (pv 0) (pa_cons (pe_bltn (v := .ty "int") (by rfl) (fr "int" (by decide)) (by decide +kernel) rfl) pa_nil))) (pe_and (pe_not (pe_callB call_isi (by rfl) (fr "isinstance" (by decide)) (by decide +kernel) (pa_cons (pv 0) (pa_cons (pe_bltn (v := .ty "bool") (by rfl) (fr "bool" (by decide)) (by decide +kernel) rfl) pa_nil)))) (pe_one (pe_chain op_le op_le (pv 1) (pv 0) (pv 2)))))))
/-! is_integer_numbers -/
abbrev s_is_integer_numbers : Stmt := topS 11
abbrev N_is_integer_numbers : List Str := ["thing"]
theorem sc_is_integer_numbers : FnScope N_is_integer_numbers ["thing"] (defScope s_is_integer_numbers) := ⟨rfl, rfl, rfl, by decide +kernel, rfl, by decide +kernel, by decide +kernel⟩
def t_is_integer_numbers (w : World) (K : PySem.W.Frag) (Sok : List V → Prop) : TS :=
  (tRet (tAndV (tCB (rIsi K) (tCons (tVar 0) (tCons (tC (.ty "int")) tNil))) (tNotV (tCB (rIsi K) (tCons (tVar 0) (tCons (tC (.ty "bool")) tNil))))))
theorem der_is_integer_numbers {P : Program} {w : World} {K : PySem.W.Frag} {mg : Str → Option Value} {base : Heap} {Sok : List V → Prop} (fr : Free mg) {f : Addr} {cdv : Value} {A : Around} {outer : List Env} {s : Shared} {H : Hp} {E : XK} (hr : Room 0 (A.deeper (envOfC "is_integer" (defScope s_is_integer_numbers) s.heap.objs.size f cdv))) :
    PSs (cxOf CX0 P w K mg base N_is_integer_numbers "is_integer" (defScope s_is_integer_numbers) f cdv A outer s H E).nox (defBody s_is_integer_numbers) (t_is_integer_numbers w K Sok) := by
  have nd : (N_is_integer_numbers).Nodup := sc_is_integer_numbers.nd
  exact (pss_one (ps_ret (pe_and (pe_callB call_isi (by rfl) (fr "isinstance" (by decide)) (by decide +kernel) (pa_cons (pv 0) (pa_cons (pe_bltn (v := .ty "int") (by rfl) (fr "int" (by decide)) (by decide +kernel) rfl) pa_nil))) (pe_one (pe_not (pe_callB call_isi (by rfl) (fr "isinstance" (by decide)) (by decide +kernel) (pa_cons (pv 0) (pa_cons (pe_bltn (v := .ty "bool") (by rfl) (fr "bool" (by decide)) (by decide +kernel) rfl) pa_nil))))))))
/-! binomial -/
abbrev s_binomial : Stmt := topS 13
abbrev N_binomial : List Str := ["n", "k", "found", "step"]
theorem sc_binomial : FnScope N_binomial ["n", "k"] (defScope s_binomial) := ⟨rfl, rfl, rfl, by decide +kernel, rfl, by decide +kernel, by decide +kernel⟩
def t_binomial (w : World) (K : PySem.W.Frag) (Sok : List V → Prop) : TS :=
  (tSeq (tIfS (tTest (tOp rGt (tVar 1) (tVar 0))) (tRet (tC (.int 0))) tNext)
  (tSeq (tAsg (tC (.int 1)) (gName 2))
  (tSeq (tFor (iRng1 (tCons (tCB (rMin2) (tCons (tVar 1) (tCons (tOp rSubI (tVar 0) (tVar 1)) tNil))) tNil)) (gName 3) (tAsg (tOp rFdiv (tOp (rMulA K) (tVar 2) (tOp rSubI (tVar 0) (tVar 3))) (tOp (rAddA K) (tVar 3) (tC (.int 1)))) (gName 2)))
  (tRet (tVar 2)))))
theorem der_binomial {P : Program} {w : World} {K : PySem.W.Frag} {mg : Str → Option Value} {base : Heap} {Sok : List V → Prop} (fr : Free mg) {f : Addr} {cdv : Value} {A : Around} {outer : List Env} {s : Shared} {H : Hp} {E : XK} (hr : Room 0 (A.deeper (envOfC "binomial" (defScope s_binomial) s.heap.objs.size f cdv))) :
    PSs (cxOf CX0 P w K mg base N_binomial "binomial" (defScope s_binomial) f cdv A outer s H E).nox (defBody s_binomial) (t_binomial w K Sok) := by
  have nd : (N_binomial).Nodup := sc_binomial.nd
  exact (pss_cons (ps_if (pt_cmpR op_gt (pv 1) (pv 0) (nomark _)) (pss_one (ps_ret pe_int)) pss_nil)
    (pss_cons (ps_set (i := 2) nd rfl (Or.inl rfl) pe_int)
    (pss_cons (ps_for PassesOwn.never rfl (pi_range1 (by rfl) (fr "range" (by decide)) (pa_cons (pe_callB (call_min2 rfl) (by rfl) (fr "min" (by decide)) (by decide +kernel) (pa_cons (pv 1) (pa_cons (pe_op op_sub (pv 0) (pv 1)) pa_nil))) pa_nil)) (pg_name (i := 3) nd rfl (Or.inl rfl)) (pss_one (ps_set (i := 2) nd rfl (Or.inl rfl) (pe_op op_fdivW (pe_op op_mulA (pv 2) (pe_op op_sub (pv 0) (pv 3))) (pe_op op_addA (pv 3) pe_int)))))
    (pss_one (ps_ret (pv 2))))))
/-! edge_divisor -/
abbrev s_edge_divisor : Stmt := topS 14
abbrev N_edge_divisor : List Str := ["n", "size"]
theorem sc_edge_divisor : FnScope N_edge_divisor ["n", "size"] (defScope s_edge_divisor) := ⟨rfl, rfl, rfl, by decide +kernel, rfl, by decide +kernel, by decide +kernel⟩
def t_edge_divisor (w : World) (K : PySem.W.Frag) (Sok : List V → Prop) (pre_binomial : Pre) : TS :=
  (tRet (tOp (rMulA K) (tVar 0) (tCall (spD K Sok 2 pre_binomial) [] E0 (tCons (tOp rSubI (tVar 0) (tC (.int 1))) (tCons (tVar 1) tNil)))))
theorem der_edge_divisor {P : Program} {w : World} {K : PySem.W.Frag} {mg : Str → Option Value} {base : Heap} {Sok : List V → Prop} {pre_binomial : Pre} (fr : Free mg) (c_binomial : C8.Cal P w K mg base 1 "binomial" (spD K Sok 2 pre_binomial) []) {f : Addr} {cdv : Value} {A : Around} {outer : List Env} {s : Shared} {H : Hp} {E : XK} (hr : Room 1 (A.deeper (envOfC "edge_divisor" (defScope s_edge_divisor) s.heap.objs.size f cdv))) :
    PSs (cxOf CX0 P w K mg base N_edge_divisor "edge_divisor" (defScope s_edge_divisor) f cdv A outer s H E).nox (defBody s_edge_divisor) (t_edge_divisor w K Sok pre_binomial) := by
  have nd : (N_edge_divisor).Nodup := sc_edge_divisor.nd
  exact (pss_one (ps_ret (pe_op op_mulA (pv 0) (C8.pe_c c_binomial hr (by decide) (by rfl) (pa_cons (pe_op op_sub (pv 0) pe_int) (pa_cons (pv 1) pa_nil))))))
/-! common_divisor -/
abbrev s_common_divisor : Stmt := topS 15
abbrev N_common_divisor : List Str := ["one", "other"]
theorem sc_common_divisor : FnScope N_common_divisor ["one", "other"] (defScope s_common_divisor) := ⟨rfl, rfl, rfl, by decide +kernel, rfl, by decide +kernel, by decide +kernel⟩
def t_common_divisor (w : World) (K : PySem.W.Frag) (Sok : List V → Prop) : TS :=
  (tSeq (tWhile (tTest (tOp rGt (tVar 1) (tC (.int 0)))) (tPar 0 1 (tCons (tVar 1) (tCons (tOp rMod (tVar 0) (tVar 1)) tNil))))
  (tRet (tVar 0)))
theorem der_common_divisor {P : Program} {w : World} {K : PySem.W.Frag} {mg : Str → Option Value} {base : Heap} {Sok : List V → Prop} (fr : Free mg) {f : Addr} {cdv : Value} {A : Around} {outer : List Env} {s : Shared} {H : Hp} {E : XK} (hr : Room 0 (A.deeper (envOfC "common_divisor" (defScope s_common_divisor) s.heap.objs.size f cdv))) :
    PSs (cxOf CX0 P w K mg base N_common_divisor "common_divisor" (defScope s_common_divisor) f cdv A outer s H E).nox (defBody s_common_divisor) (t_common_divisor w K Sok) := by
  have nd : (N_common_divisor).Nodup := sc_common_divisor.nd
  exact (pss_cons (ps_while PassesOwn.never (pt_cmpR op_gt (pv 1) pe_int (nomark _)) (pss_one (ps_par (i := 0) (j := 1) rfl nd rfl rfl (by decide) rfl rfl (pa_cons (pv 1) (pa_cons (pe_op op_mod (pv 0) (pv 1)) pa_nil)) (by rfl))))
    (pss_one (ps_ret (pv 0))))
/-! common_multiple -/
abbrev s_common_multiple : Stmt := topS 16
abbrev N_common_multiple : List Str := ["some", "found", "one"]
theorem sc_common_multiple : FnScope N_common_multiple ["some"] (defScope s_common_multiple) := ⟨rfl, rfl, rfl, by decide +kernel, rfl, by decide +kernel, by decide +kernel⟩
def t_common_multiple (w : World) (K : PySem.W.Frag) (Sok : List V → Prop) (pre_common_divisor : Pre) : TS :=
  (tSeq (tAsg (tC (.int 1)) (gName 1))
  (tSeq (tFor (iAny K (tVar 0)) (gName 2) (tAsg (tOp (rMulA K) (tOp rFdiv (tVar 1) (tCall (spD K Sok 2 pre_common_divisor) [] E0 (tCons (tVar 1) (tCons (tVar 2) tNil)))) (tVar 2)) (gName 1)))
  (tRet (tVar 1))))
theorem der_common_multiple {P : Program} {w : World} {K : PySem.W.Frag} {mg : Str → Option Value} {base : Heap} {Sok : List V → Prop} {pre_common_divisor : Pre} (fr : Free mg) (c_common_divisor : C8.Cal P w K mg base 1 "common_divisor" (spD K Sok 2 pre_common_divisor) []) {f : Addr} {cdv : Value} {A : Around} {outer : List Env} {s : Shared} {H : Hp} {E : XK} (hr : Room 1 (A.deeper (envOfC "common_multiple" (defScope s_common_multiple) s.heap.objs.size f cdv))) :
    PSs (cxOf CX0 P w K mg base N_common_multiple "common_multiple" (defScope s_common_multiple) f cdv A outer s H E).nox (defBody s_common_multiple) (t_common_multiple w K Sok pre_common_divisor) := by
  have nd : (N_common_multiple).Nodup := sc_common_multiple.nd
  exact (pss_cons (ps_set (i := 1) nd rfl (Or.inl rfl) pe_int)
    (pss_cons (ps_for PassesOwn.never rfl (pi_any (pv 0)) (pg_name (i := 2) nd rfl (Or.inl rfl)) (pss_one (ps_set (i := 1) nd rfl (Or.inl rfl) (pe_op op_mulA (pe_op op_fdivW (pv 1) (C8.pe_c c_common_divisor hr (by decide) (by rfl) (pa_cons (pv 1) (pa_cons (pv 2) pa_nil)))) (pv 2)))))
    (pss_one (ps_ret (pv 1)))))
/-! least_lists -/
abbrev s_least_lists : Stmt := topS 17
abbrev N_least_lists : List Str := ["n", "depth", "size"]
theorem sc_least_lists : FnScope N_least_lists ["n", "depth"] (defScope s_least_lists) := ⟨rfl, rfl, rfl, by decide +kernel, rfl, by decide +kernel, by decide +kernel⟩
def t_least_lists (w : World) (K : PySem.W.Frag) (Sok : List V → Prop) (pre_edge_divisor : Pre) (pre_common_multiple : Pre) : TS :=
  (tRet (tCall (spD K Sok 1 pre_common_multiple) [] E0 (tCons (tLc (iRng1 (tCons (tVar 1) tNil)) (gName 2) tYes (tCall (spD K Sok 2 pre_edge_divisor) [] E0 (tCons (tVar 0) (tCons (tVar 2) tNil))) [2]) tNil)))
theorem der_least_lists {P : Program} {w : World} {K : PySem.W.Frag} {mg : Str → Option Value} {base : Heap} {Sok : List V → Prop} {pre_edge_divisor : Pre} {pre_common_multiple : Pre} (fr : Free mg) (c_edge_divisor : C8.Cal P w K mg base 2 "edge_divisor" (spD K Sok 2 pre_edge_divisor) []) (c_common_multiple : C8.Cal P w K mg base 2 "common_multiple" (spD K Sok 1 pre_common_multiple) []) {f : Addr} {cdv : Value} {A : Around} {outer : List Env} {s : Shared} {H : Hp} {E : XK} (hr : Room 2 (A.deeper (envOfC "least_lists" (defScope s_least_lists) s.heap.objs.size f cdv))) :
    PSs (cxOf CX0 P w K mg base N_least_lists "least_lists" (defScope s_least_lists) f cdv A outer s H E).nox (defBody s_least_lists) (t_least_lists w K Sok pre_edge_divisor pre_common_multiple) := by
  have nd : (N_least_lists).Nodup := sc_least_lists.nd
  exact (pss_one (ps_ret (C8.pe_c c_common_multiple hr (by decide) (by rfl) (pa_cons (pe_lc (own := [("size", 2)]) (g := (gName 2)) (tt := tYes) rfl nd (pi_range1 (by rfl) (fr "range" (by decide)) (pa_cons (pv 1) pa_nil)) (blkOk_by (N := N_least_lists) (sc := (defScope s_least_lists)) (by decide +kernel)) (fun _ _ _ _ _ => (pg_name (i := 2) nd rfl (Or.inl rfl))) (fun _ _ _ _ _ => pts_nil) (fun _ _ _ _ _ => (C8.pe_c c_edge_divisor hr (by decide) (by rfl) (pa_cons (pv 0) (pa_cons (pv 2) pa_nil))))) pa_nil))))
/-! is_possible -/
abbrev s_is_possible : Stmt := topS 18
abbrev N_is_possible : List Str := ["n", "depth", "count"]
theorem sc_is_possible : FnScope N_is_possible ["n", "depth", "count"] (defScope s_is_possible) := ⟨rfl, rfl, rfl, by decide +kernel, rfl, by decide +kernel, by decide +kernel⟩
def t_is_possible (w : World) (K : PySem.W.Frag) (Sok : List V → Prop) (pre_is_integer_numbers : Pre) (pre_least_lists : Pre) : TS :=
  (tRet (tAndV (tCall (spD K Sok 1 pre_is_integer_numbers) [] E0 (tCons (tVar 2) tNil)) (tAndV (tOp rGt (tVar 2) (tC (.int 0))) (tOp (rEqA K) (tOp rMod (tVar 2) (tCall (spD K Sok 2 pre_least_lists) [] E0 (tCons (tVar 0) (tCons (tVar 1) tNil)))) (tC (.int 0))))))
theorem der_is_possible {P : Program} {w : World} {K : PySem.W.Frag} {mg : Str → Option Value} {base : Heap} {Sok : List V → Prop} {pre_is_integer_numbers : Pre} {pre_least_lists : Pre} (fr : Free mg) (c_is_integer_numbers : C8.Cal P w K mg base 1 "is_integer_numbers" (spD K Sok 1 pre_is_integer_numbers) []) (c_least_lists : C8.Cal P w K mg base 3 "least_lists" (spD K Sok 2 pre_least_lists) []) {f : Addr} {cdv : Value} {A : Around} {outer : List Env} {s : Shared} {H : Hp} {E : XK} (hr : Room 3 (A.deeper (envOfC "is_possible" (defScope s_is_possible) s.heap.objs.size f cdv))) :
    PSs (cxOf CX0 P w K mg base N_is_possible "is_possible" (defScope s_is_possible) f cdv A outer s H E).nox (defBody s_is_possible) (t_is_possible w K Sok pre_is_integer_numbers pre_least_lists) := by
  have nd : (N_is_possible).Nodup := sc_is_possible.nd
  exact (pss_one (ps_ret (pe_and (C8.pe_c c_is_integer_numbers hr (by decide) (by rfl) (pa_cons (pv 2) pa_nil)) (pe_and (pe_cmpR op_gt (pv 2) pe_int (nomark _)) (pe_one (pe_cmpR (op_eqA hr.units) (pe_op op_mod (pv 2) (C8.pe_c c_least_lists hr (by decide) (by rfl) (pa_cons (pv 0) (pa_cons (pv 1) pa_nil)))) pe_int (nomark _)))))))
/-! Cluster.__init__ -/
abbrev s_Cluster_init : Stmt := (C8.clsBody (topS 39)).getD 0 (.Pass ⟨0, 0, 0, 0⟩)
abbrev N_Cluster_init : List Str := ["self", "n", "failures", "factor", "count"]
theorem sc_Cluster_init : FnScope N_Cluster_init ["self", "n", "failures", "factor", "count"] (defScope s_Cluster_init) := ⟨rfl, rfl, rfl, by decide +kernel, rfl, by decide +kernel, by decide +kernel⟩
def t_Cluster_init (w : World) (K : PySem.W.Frag) (Sok : List V → Prop) (pre_is_integer_cluster : Pre) (pre_is_possible : Pre) : TS :=
  (tSeq (tIfS (tNot (tB (tCall (spD K Sok 3 pre_is_integer_cluster) [] E0 (tCons (tVar 1) (tCons (tC (.int 2)) (tCons (tC (.int 60)) tNil)))))) tNever tNext)
  (tSeq (tIfS (tNot (tB (tCall (spD K Sok 3 pre_is_integer_cluster) [] E0 (tCons (tVar 2) (tCons (tC (.int 1)) (tCons (tOp rSubI (tVar 1) (tC (.int 1))) tNil)))))) tNever tNext)
  (tSeq (tIfS (tNot (tB (tCall (spD K Sok 3 pre_is_integer_cluster) [] E0 (tCons (tVar 3) (tCons (tC (.int 1)) (tCons (tVar 1) tNil)))))) tNever tNext)
  (tSeq (sFldC (cC_Cluster K) (tVar 0) (tCB (rMin2) (tCons (tVar 1) (tCons (tOp (rAddA K) (tVar 2) (tVar 3)) tNil))) "depth")
  (tSeq (tIfS (tNot (tB (tCall (spD K Sok 3 pre_is_possible) [] E0 (tCons (tVar 1) (tCons (tFldC (cC_Cluster K) (tVar 0) "depth") (tCons (tVar 4) tNil)))))) tNever tNext)
  (tSeq (sFldC (cC_Cluster K) (tVar 0) (tVar 1) "n")
  (tSeq (sFldC (cC_Cluster K) (tVar 0) (tVar 2) "failures")
  (tSeq (sFldC (cC_Cluster K) (tVar 0) (tVar 3) "factor")
  (tSeq (sFldC (cC_Cluster K) (tVar 0) (tVar 4) "count")
  (tSeq (sFldC (cC_Cluster K) (tVar 0) tDNewK "dead")
  (sFldC (cC_Cluster K) (tVar 0) (tLst tNil) "done")))))))))))
theorem der_Cluster_init {P : Program} {w : World} {K : PySem.W.Frag} {mg : Str → Option Value} {base : Heap} {Sok : List V → Prop} {pre_is_integer_cluster : Pre} {pre_is_possible : Pre} (fr : Free mg) (cf_Cluster : CF_Cluster K) (hc_MOST_SERVERS : ∃ u, mg "MOST_SERVERS" = some u ∧ RelV (.int 60) u) (hc_LEAST_SERVERS : ∃ u, mg "LEAST_SERVERS" = some u ∧ RelV (.int 2) u) (c_is_integer_cluster : C8.Cal P w K mg base 1 "is_integer_cluster" (spD K Sok 3 pre_is_integer_cluster) []) (c_is_possible : C8.Cal P w K mg base 4 "is_possible" (spD K Sok 3 pre_is_possible) []) {f : Addr} {cdv : Value} {A : Around} {outer : List Env} {s : Shared} {H : Hp} {E : XK} (hr : Room 4 (A.deeper (envOfC "Cluster.__init__" (defScope s_Cluster_init) s.heap.objs.size f cdv))) :
    PSs (cxOf CX0 P w K mg base N_Cluster_init "Cluster.__init__" (defScope s_Cluster_init) f cdv A outer s H E).nox (defBody s_Cluster_init) (t_Cluster_init w K Sok pre_is_integer_cluster pre_is_possible) := by
  have nd : (N_Cluster_init).Nodup := sc_Cluster_init.nd
  exact (pss_cons (ps_if (pt_not (pt_val (C8.pe_c c_is_integer_cluster hr (by decide) (by rfl) (pa_cons (pv 1) (pa_cons (C8.pe_gc (v := .int 2) (by rfl) hc_LEAST_SERVERS) (pa_cons (C8.pe_gc (v := .int 60) (by rfl) hc_MOST_SERVERS) pa_nil)))))) (pss_one ps_never) pss_nil)
    (pss_cons (ps_if (pt_not (pt_val (C8.pe_c c_is_integer_cluster hr (by decide) (by rfl) (pa_cons (pv 2) (pa_cons pe_int (pa_cons (pe_op op_sub (pv 1) pe_int) pa_nil)))))) (pss_one ps_never) pss_nil)
    (pss_cons (ps_if (pt_not (pt_val (C8.pe_c c_is_integer_cluster hr (by decide) (by rfl) (pa_cons (pv 3) (pa_cons pe_int (pa_cons (pv 1) pa_nil)))))) (pss_one ps_never) pss_nil)
    (pss_cons (ps_fldC cf_Cluster.1 (cf_Cluster.2 "depth" (by decide)) (pv 0) (pe_callB (call_min2 rfl) (by rfl) (fr "min" (by decide)) (by decide +kernel) (pa_cons (pv 1) (pa_cons (pe_op op_addA (pv 2) (pv 3)) pa_nil))) (by rfl))
    (pss_cons (ps_if (pt_not (pt_val (C8.pe_c c_is_possible hr (by decide) (by rfl) (pa_cons (pv 1) (pa_cons (pe_fldC cf_Cluster.1 (cf_Cluster.2 "depth" (by decide)) (pv 0) (by rfl)) (pa_cons (pv 4) pa_nil)))))) (pss_one ps_never) pss_nil)
    (pss_cons (ps_fldC cf_Cluster.1 (cf_Cluster.2 "n" (by decide)) (pv 0) (pv 1) (by rfl))
    (pss_cons (ps_fldC cf_Cluster.1 (cf_Cluster.2 "failures" (by decide)) (pv 0) (pv 2) (by rfl))
    (pss_cons (ps_fldC cf_Cluster.1 (cf_Cluster.2 "factor" (by decide)) (pv 0) (pv 3) (by rfl))
    (pss_cons (ps_fldC cf_Cluster.1 (cf_Cluster.2 "count" (by decide)) (pv 0) (pv 4) (by rfl))
    (pss_cons (ps_fldC cf_Cluster.1 (cf_Cluster.2 "dead" (by decide)) (pv 0) pe_dnewK (by rfl))
    (pss_one (ps_fldC cf_Cluster.1 (cf_Cluster.2 "done" (by decide)) (pv 0) (pe_lst pa_nil) (by rfl)))))))))))))
/-! _law_shuffled -/
abbrev s_law_shuffled : Stmt := topS 43
abbrev N_law_shuffled : List Str := ["_law_stream_here", "_law_items", "_law_left", "_law_found"]
theorem sc_law_shuffled : FnScope N_law_shuffled ["_law_stream_here", "_law_items"] (defScope s_law_shuffled) := ⟨rfl, rfl, rfl, by decide +kernel, rfl, by decide +kernel, by decide +kernel⟩
def t_law_shuffled (w : World) (K : PySem.W.Frag) (Sok : List V → Prop) (pre_law_draw : Pre) : TS :=
  (tSeq (tPar 2 3 (tCons (tCB (rListOf K) (tCons (tVar 1) tNil)) (tCons (tLst tNil) tNil)))
  (tSeq (tWhile (tTest (tOp (rNeA K) (tVar 2) (tLst tNil))) (tDrop (tBM K "list" rAppend (tVar 3) (tCons (tBM K "list" rPopAt (tVar 2) (tCons (tCall (spD K Sok 2 pre_law_draw) [] E0 (tCons (tVar 0) (tCons (tCB (rLenB K) (tCons (tVar 2) tNil)) tNil))) tNil)) tNil))))
  (tRet (tVar 3))))
theorem der_law_shuffled {P : Program} {w : World} {K : PySem.W.Frag} {mg : Str → Option Value} {base : Heap} {Sok : List V → Prop} {pre_law_draw : Pre} (fr : Free mg) (c_law_draw : C8.Cal P w K mg base 1 "_law_draw" (spD K Sok 2 pre_law_draw) []) {f : Addr} {cdv : Value} {A : Around} {outer : List Env} {s : Shared} {H : Hp} {E : XK} (hr : Room 1 (A.deeper (envOfC "_law_shuffled" (defScope s_law_shuffled) s.heap.objs.size f cdv))) :
    PSs (cxOf CX0 P w K mg base N_law_shuffled "_law_shuffled" (defScope s_law_shuffled) f cdv A outer s H E).nox (defBody s_law_shuffled) (t_law_shuffled w K Sok pre_law_draw) := by
  have nd : (N_law_shuffled).Nodup := sc_law_shuffled.nd
  exact (pss_cons (ps_par (i := 2) (j := 3) rfl nd rfl rfl (by decide) rfl rfl (pa_cons (pe_callTy call_list_of (by rfl) (fr "list" (by decide)) (by decide +kernel) (pa_cons (pv 1) pa_nil)) (pa_cons (pe_lst pa_nil) pa_nil)) (by rfl))
    (pss_cons (ps_while PassesOwn.never (pt_cmpR (op_neA hr.units) (pv 2) (pe_lst pa_nil) (nomark _)) (pss_one (ps_expr (pe_bm PySem.F.plainAttrs_list PySem.F.slot_list_append PySem.F.type_list_append mt_append (pv 3) (pa_cons (pe_bm PySem.F.plainAttrs_list PySem.F.slot_list_pop PySem.F.type_list_pop mt_popAt (pv 2) (pa_cons (C8.pe_c c_law_draw hr (by decide) (by rfl) (pa_cons (pv 0) (pa_cons (pe_callB call_len (by rfl) (fr "len" (by decide)) (by decide +kernel) (pa_cons (pv 2) pa_nil)) pa_nil))) pa_nil)) pa_nil)))))
    (pss_one (ps_ret (pv 3)))))
/-! look_at_count -/
abbrev s_look_at_count : Stmt := topS 23
abbrev N_look_at_count : List Str := ["n", "depth", "count"]
theorem sc_look_at_count : FnScope N_look_at_count ["n", "depth", "count"] (defScope s_look_at_count) := ⟨rfl, rfl, rfl, by decide +kernel, rfl, by decide +kernel, by decide +kernel⟩
def t_look_at_count (w : World) (K : PySem.W.Frag) (Sok : List V → Prop) (pre_is_possible : Pre) : TS :=
  (tIfS (tNot (tB (tCall (spD K Sok 3 pre_is_possible) [] E0 (tCons (tVar 0) (tCons (tVar 1) (tCons (tVar 2) tNil)))))) tNever tNext)
theorem der_look_at_count {P : Program} {w : World} {K : PySem.W.Frag} {mg : Str → Option Value} {base : Heap} {Sok : List V → Prop} {pre_is_possible : Pre} (fr : Free mg) (c_is_possible : C8.Cal P w K mg base 4 "is_possible" (spD K Sok 3 pre_is_possible) []) {f : Addr} {cdv : Value} {A : Around} {outer : List Env} {s : Shared} {H : Hp} {E : XK} (hr : Room 4 (A.deeper (envOfC "look_at_count" (defScope s_look_at_count) s.heap.objs.size f cdv))) :
    PSs (cxOf CX0 P w K mg base N_look_at_count "look_at_count" (defScope s_look_at_count) f cdv A outer s H E).nox (defBody s_look_at_count) (t_look_at_count w K Sok pre_is_possible) := by
  have nd : (N_look_at_count).Nodup := sc_look_at_count.nd
  exact (pss_one (ps_if (pt_not (pt_val (C8.pe_c c_is_possible hr (by decide) (by rfl) (pa_cons (pv 0) (pa_cons (pv 1) (pa_cons (pv 2) pa_nil)))))) (pss_one ps_never) pss_nil))
/-! outside -/
abbrev s_outside : Stmt := topS 20
abbrev N_outside : List Str := ["n", "members", "server"]
theorem sc_outside : FnScope N_outside ["n", "members"] (defScope s_outside) := ⟨rfl, rfl, rfl, by decide +kernel, rfl, by decide +kernel, by decide +kernel⟩
def t_outside (w : World) (K : PySem.W.Frag) (Sok : List V → Prop) : TS :=
  (tRet (tCB (rTupN K) (tCons (tLc (iRng1 (tCons (tVar 0) tNil)) (gName 2) (tTest (tOp (rIn K true) (tVar 2) (tVar 1))) (tVar 2) [2]) tNil)))
theorem der_outside {P : Program} {w : World} {K : PySem.W.Frag} {mg : Str → Option Value} {base : Heap} {Sok : List V → Prop} (fr : Free mg) {f : Addr} {cdv : Value} {A : Around} {outer : List Env} {s : Shared} {H : Hp} {E : XK} (hr : Room 0 (A.deeper (envOfC "outside" (defScope s_outside) s.heap.objs.size f cdv))) :
    PSs (cxOf CX0 P w K mg base N_outside "outside" (defScope s_outside) f cdv A outer s H E).nox (defBody s_outside) (t_outside w K Sok) := by
  have nd : (N_outside).Nodup := sc_outside.nd
  exact (pss_one (ps_ret (pe_callTy cr_tupN (by rfl) (fr "tuple" (by decide)) (by decide +kernel) (pa_cons (pe_lc (own := [("server", 2)]) (g := (gName 2)) (tt := (tTest (tOp (rIn K true) (tVar 2) (tVar 1)))) rfl nd (pi_range1 (by rfl) (fr "range" (by decide)) (pa_cons (pv 0) pa_nil)) (blkOk_by (N := N_outside) (sc := (defScope s_outside)) (by decide +kernel)) (fun _ _ _ _ _ => (pg_name (i := 2) nd rfl (Or.inl rfl))) (fun _ _ _ _ _ => (pts_one (pt_cmpR op_notIn_seq (pv 2) (pv 1) (by rfl)))) (fun _ _ _ _ _ => (pv 2))) pa_nil))))
/-! with_server -/
abbrev s_with_server : Stmt := topS 21
abbrev N_with_server : List Str := ["members", "server"]
theorem sc_with_server : FnScope N_with_server ["members", "server"] (defScope s_with_server) := ⟨rfl, rfl, rfl, by decide +kernel, rfl, by decide +kernel, by decide +kernel⟩
def t_with_server (w : World) (K : PySem.W.Frag) (Sok : List V → Prop) : TS :=
  (tRet (tCB (rTupN K) (tCons (tCB (rSortedA K) (tCons (tOp (rAddA K) (tVar 0) (tTup (tCons (tVar 1) tNil))) tNil)) tNil)))
theorem der_with_server {P : Program} {w : World} {K : PySem.W.Frag} {mg : Str → Option Value} {base : Heap} {Sok : List V → Prop} (fr : Free mg) {f : Addr} {cdv : Value} {A : Around} {outer : List Env} {s : Shared} {H : Hp} {E : XK} (hr : Room 0 (A.deeper (envOfC "with_server" (defScope s_with_server) s.heap.objs.size f cdv))) :
    PSs (cxOf CX0 P w K mg base N_with_server "with_server" (defScope s_with_server) f cdv A outer s H E).nox (defBody s_with_server) (t_with_server w K Sok) := by
  have nd : (N_with_server).Nodup := sc_with_server.nd
  exact (pss_one (ps_ret (pe_callTy cr_tupN (by rfl) (fr "tuple" (by decide)) (by decide +kernel) (pa_cons (pe_callB cr_sortedA (by rfl) (fr "sorted" (by decide)) (by decide +kernel) (pa_cons (pe_op op_addA (pv 0) (pe_tup (pa_cons (pv 1) pa_nil))) pa_nil)) pa_nil))))
/-! numbers_with -/
abbrev s_numbers_with : Stmt := topS 27
abbrev N_numbers_with : List Str := ["n", "count", "beginning", "first", "many", "members", "low", "server", "width", "start", "from_rest", "to_rest"]
theorem sc_numbers_with : FnScope N_numbers_with ["n", "count", "beginning"] (defScope s_numbers_with) := ⟨rfl, rfl, rfl, by decide +kernel, rfl, by decide +kernel, by decide +kernel⟩
def t_numbers_with (w : World) (K : PySem.W.Frag) (Sok : List V → Prop) (pre_look_at_count : Pre) (pre_edge_divisor : Pre) (pre_outside : Pre) (pre_with_server : Pre) : TS :=
  (tSeq (tDrop (tCall (spD K Sok 3 pre_look_at_count) [] E0 (tCons (tVar 0) (tCons (tCB (rLenB K) (tCons (tVar 2) tNil)) (tCons (tVar 1) tNil)))))
  (tSeq (tAsg (tTup (tCons (tC (.int 0)) (tCons (tVar 1) (tCons (tTup tNil) (tCons (tC (.int 0)) tNil))))) (gTup K 4 (gCons (gName 3) (gCons (gName 4) (gCons (gName 5) (gCons (gName 6) gNil))))))
  (tSeq (tFor (iAny K (tVar 2)) (gName 7) (tSeq (tAsg (tOp rFdiv (tVar 1) (tCall (spD K Sok 2 pre_edge_divisor) [] E0 (tCons (tVar 0) (tCons (tCB (rLenB K) (tCons (tVar 5) tNil)) tNil)))) (gName 8))
  (tSeq (tAsg (tOp (rMulA K) (tBMN (rIndexT K) (tCall (spD K Sok 2 pre_outside) [] E0 (tCons (tVar 0) (tCons (tVar 5) tNil))) (tCons (tVar 7) tNil)) (tVar 8)) (gName 9))
  (tSeq (tPar 10 11 (tCons (tCB (rMax2) (tCons (tVar 6) (tCons (tVar 9) tNil))) (tCons (tCB (rMin2) (tCons (tOp (rAddA K) (tVar 6) (tVar 4)) (tCons (tOp (rAddA K) (tVar 9) (tVar 8)) tNil))) tNil)))
  (tSeq (tIfS (tTest (tOp rGe (tVar 10) (tVar 11))) (tRet (tC .non)) tNext)
  (tSeq (tPar 3 4 (tCons (tOp rSubI (tOp (rAddA K) (tVar 3) (tVar 10)) (tVar 6)) (tCons (tOp rSubI (tVar 11) (tVar 10)) tNil)))
  (tSeq (tAsg (tCall (spD K Sok 2 pre_with_server) [] E0 (tCons (tVar 5) (tCons (tVar 7) tNil))) (gName 5))
  (tAsg (tOp rSubI (tOp (rAddA K) (tOp (rMulA K) (tBMN (rIndexT K) (tVar 5) (tCons (tVar 7) tNil)) (tVar 8)) (tVar 10)) (tVar 9)) (gName 6)))))))))
  (tRet (tTup (tCons (tVar 3) (tCons (tVar 4) tNil)))))))
theorem der_numbers_with {P : Program} {w : World} {K : PySem.W.Frag} {mg : Str → Option Value} {base : Heap} {Sok : List V → Prop} {pre_look_at_count : Pre} {pre_edge_divisor : Pre} {pre_outside : Pre} {pre_with_server : Pre} (fr : Free mg) (c_look_at_count : C8.Cal P w K mg base 5 "look_at_count" (spD K Sok 3 pre_look_at_count) []) (c_edge_divisor : C8.Cal P w K mg base 2 "edge_divisor" (spD K Sok 2 pre_edge_divisor) []) (c_outside : C8.Cal P w K mg base 1 "outside" (spD K Sok 2 pre_outside) []) (c_with_server : C8.Cal P w K mg base 1 "with_server" (spD K Sok 2 pre_with_server) []) {f : Addr} {cdv : Value} {A : Around} {outer : List Env} {s : Shared} {H : Hp} {E : XK} (hr : Room 5 (A.deeper (envOfC "numbers_with" (defScope s_numbers_with) s.heap.objs.size f cdv))) :
    PSs (cxOf CX0 P w K mg base N_numbers_with "numbers_with" (defScope s_numbers_with) f cdv A outer s H E).nox (defBody s_numbers_with) (t_numbers_with w K Sok pre_look_at_count pre_edge_divisor pre_outside pre_with_server) := by
  have nd : (N_numbers_with).Nodup := sc_numbers_with.nd
  exact (pss_cons (ps_expr (C8.pe_c c_look_at_count hr (by decide) (by rfl) (pa_cons (pv 0) (pa_cons (pe_callB call_len (by rfl) (fr "len" (by decide)) (by decide +kernel) (pa_cons (pv 2) pa_nil)) (pa_cons (pv 1) pa_nil)))))
    (pss_cons (ps_asg (pe_tup (pa_cons pe_int (pa_cons (pv 1) (pa_cons (pe_tup pa_nil) (pa_cons pe_int pa_nil))))) (pg_tup rfl (pgs_cons (pg_name (i := 3) nd rfl (Or.inl rfl)) (pgs_cons (pg_name (i := 4) nd rfl (Or.inl rfl)) (pgs_cons (pg_name (i := 5) nd rfl (Or.inl rfl)) (pgs_cons (pg_name (i := 6) nd rfl (Or.inl rfl)) pgs_nil))))))
    (pss_cons (ps_for PassesOwn.never rfl (pi_any (pv 2)) (pg_name (i := 7) nd rfl (Or.inl rfl)) (pss_cons (ps_set (i := 8) nd rfl (Or.inl rfl) (pe_op op_fdivW (pv 1) (C8.pe_c c_edge_divisor hr (by decide) (by rfl) (pa_cons (pv 0) (pa_cons (pe_callB call_len (by rfl) (fr "len" (by decide)) (by decide +kernel) (pa_cons (pv 5) pa_nil)) pa_nil)))))
    (pss_cons (ps_set (i := 9) nd rfl (Or.inl rfl) (pe_op op_mulA (pe_bmN PySem.F.slot_tuple_index PySem.F.type_tuple_index mt_indexT (C8.pe_c c_outside hr (by decide) (by rfl) (pa_cons (pv 0) (pa_cons (pv 5) pa_nil))) (pa_cons (pv 7) pa_nil)) (pv 8)))
    (pss_cons (ps_par (i := 10) (j := 11) rfl nd rfl rfl (by decide) rfl rfl (pa_cons (pe_callB (call_max2 rfl) (by rfl) (fr "max" (by decide)) (by decide +kernel) (pa_cons (pv 6) (pa_cons (pv 9) pa_nil))) (pa_cons (pe_callB (call_min2 rfl) (by rfl) (fr "min" (by decide)) (by decide +kernel) (pa_cons (pe_op op_addA (pv 6) (pv 4)) (pa_cons (pe_op op_addA (pv 9) (pv 8)) pa_nil))) pa_nil)) (by rfl))
    (pss_cons (ps_if (pt_cmpR op_ge (pv 10) (pv 11) (nomark _)) (pss_one (ps_ret pe_non)) pss_nil)
    (pss_cons (ps_par (i := 3) (j := 4) rfl nd rfl rfl (by decide) rfl rfl (pa_cons (pe_op op_sub (pe_op op_addA (pv 3) (pv 10)) (pv 6)) (pa_cons (pe_op op_sub (pv 11) (pv 10)) pa_nil)) (by rfl))
    (pss_cons (ps_set (i := 5) nd rfl (Or.inl rfl) (C8.pe_c c_with_server hr (by decide) (by rfl) (pa_cons (pv 5) (pa_cons (pv 7) pa_nil))))
    (pss_one (ps_set (i := 6) nd rfl (Or.inl rfl) (pe_op op_sub (pe_op op_addA (pe_op op_mulA (pe_bmN PySem.F.slot_tuple_index PySem.F.type_tuple_index mt_indexT (pv 5) (pa_cons (pv 7) pa_nil)) (pv 8)) (pv 10)) (pv 9)))))))))))
    (pss_one (ps_ret (pe_tup (pa_cons (pv 3) (pa_cons (pv 4) pa_nil))))))))
/-! _law_shards -/
abbrev s_law_shards : Stmt := topS 48
abbrev N_law_shards : List Str := ["_law_stream_here", "_law_sizes", "_law_server", "_law_n", "_law_down", "_law_copies_of", "_law_total", "_law_first", "_law_many", "_law_found", "_law_turn"]
theorem sc_law_shards : FnScope N_law_shards ["_law_stream_here", "_law_sizes", "_law_server"] (defScope s_law_shards) := ⟨rfl, rfl, rfl, by decide +kernel, rfl, by decide +kernel, by decide +kernel⟩
def t_law_shards (w : World) (K : PySem.W.Frag) (Sok : List V → Prop) (pre_numbers_with : Pre) (pre_law_draw : Pre) : TS :=
  (tSeq (tAsg (tVar 1) (gTup K 4 (gCons (gName 3) (gCons (gName 4) (gCons (gName 5) (gCons (gName 6) gNil))))))
  (tSeq (tAsg (tCall (spD K Sok 3 pre_numbers_with) [] E0 (tCons (tVar 3) (tCons (tVar 6) (tCons (tTup (tCons (tVar 2) tNil)) tNil)))) (gTup K 2 (gCons (gName 7) (gCons (gName 8) gNil))))
  (tSeq (tAsg (tLst (tCons (tVar 7) (tCons (tOp rSubI (tOp (rAddA K) (tVar 7) (tVar 8)) (tC (.int 1))) (tCons (tOp (rAddA K) (tVar 7) (tCall (spD K Sok 2 pre_law_draw) [] E0 (tCons (tVar 0) (tCons (tVar 8) tNil)))) (tCons (tC (.int 0)) (tCons (tOp rSubI (tVar 6) (tC (.int 1))) tNil)))))) (gName 9))
  (tRet (tOp (rAddA K) (tVar 9) (tLc (iRng1 (tCons (tC (.int 6)) tNil)) (gName 10) tYes (tCall (spD K Sok 2 pre_law_draw) [] E0 (tCons (tVar 0) (tCons (tVar 6) tNil))) [10]))))))
theorem der_law_shards {P : Program} {w : World} {K : PySem.W.Frag} {mg : Str → Option Value} {base : Heap} {Sok : List V → Prop} {pre_numbers_with : Pre} {pre_law_draw : Pre} (fr : Free mg) (c_numbers_with : C8.Cal P w K mg base 6 "numbers_with" (spD K Sok 3 pre_numbers_with) []) (c_law_draw : C8.Cal P w K mg base 1 "_law_draw" (spD K Sok 2 pre_law_draw) []) {f : Addr} {cdv : Value} {A : Around} {outer : List Env} {s : Shared} {H : Hp} {E : XK} (hr : Room 6 (A.deeper (envOfC "_law_shards" (defScope s_law_shards) s.heap.objs.size f cdv))) :
    PSs (cxOf CX0 P w K mg base N_law_shards "_law_shards" (defScope s_law_shards) f cdv A outer s H E).nox (defBody s_law_shards) (t_law_shards w K Sok pre_numbers_with pre_law_draw) := by
  have nd : (N_law_shards).Nodup := sc_law_shards.nd
  exact (pss_cons (ps_asg (pv 1) (pg_tup rfl (pgs_cons (pg_name (i := 3) nd rfl (Or.inl rfl)) (pgs_cons (pg_name (i := 4) nd rfl (Or.inl rfl)) (pgs_cons (pg_name (i := 5) nd rfl (Or.inl rfl)) (pgs_cons (pg_name (i := 6) nd rfl (Or.inr rfl)) pgs_nil))))))
    (pss_cons (ps_asg (C8.pe_c c_numbers_with hr (by decide) (by rfl) (pa_cons (pv 3) (pa_cons (pv 6) (pa_cons (pe_tup (pa_cons (pv 2) pa_nil)) pa_nil)))) (pg_tup rfl (pgs_cons (pg_name (i := 7) nd rfl (Or.inl rfl)) (pgs_cons (pg_name (i := 8) nd rfl (Or.inl rfl)) pgs_nil))))
    (pss_cons (ps_set (i := 9) nd rfl (Or.inl rfl) (pe_lst (pa_cons (pv 7) (pa_cons (pe_op op_sub (pe_op op_addA (pv 7) (pv 8)) pe_int) (pa_cons (pe_op op_addA (pv 7) (C8.pe_c c_law_draw hr (by decide) (by rfl) (pa_cons (pv 0) (pa_cons (pv 8) pa_nil)))) (pa_cons pe_int (pa_cons (pe_op op_sub (pv 6) pe_int) pa_nil)))))))
    (pss_one (ps_ret (pe_op op_addA (pv 9) (pe_lc (own := [("_law_turn", 10)]) (g := (gName 10)) (tt := tYes) rfl nd (pi_range1 (by rfl) (fr "range" (by decide)) (pa_cons pe_int pa_nil)) (blkOk_by (N := N_law_shards) (sc := (defScope s_law_shards)) (by decide +kernel)) (fun _ _ _ _ _ => (pg_name (i := 10) nd rfl (Or.inl rfl))) (fun _ _ _ _ _ => pts_nil) (fun _ _ _ _ _ => (C8.pe_c c_law_draw hr (by decide) (by rfl) (pa_cons (pv 0) (pa_cons (pv 6) pa_nil)))))))))))
/-! Cluster.live -/
abbrev s_Cluster_live : Stmt := (C8.clsBody (topS 39)).getD 3 (.Pass ⟨0, 0, 0, 0⟩)
abbrev N_Cluster_live : List Str := ["self", "server"]
theorem sc_Cluster_live : FnScope N_Cluster_live ["self"] (defScope s_Cluster_live) := ⟨rfl, rfl, rfl, by decide +kernel, rfl, by decide +kernel, by decide +kernel⟩
def t_Cluster_live (w : World) (K : PySem.W.Frag) (Sok : List V → Prop) : TS :=
  (tRet (tCB (rTupOf K) (tCons (tLc (iRng1 (tCons (tFldC (cC_Cluster K) (tVar 0) "n") tNil)) (gName 1) (tB (tDNotIn (tVar 1) (tFldC (cC_Cluster K) (tVar 0) "dead"))) (tVar 1) [1]) tNil)))
theorem der_Cluster_live {P : Program} {w : World} {K : PySem.W.Frag} {mg : Str → Option Value} {base : Heap} {Sok : List V → Prop} (fr : Free mg) (cf_Cluster : CF_Cluster K) {f : Addr} {cdv : Value} {A : Around} {outer : List Env} {s : Shared} {H : Hp} {E : XK} (hr : Room 0 (A.deeper (envOfC "Cluster.live" (defScope s_Cluster_live) s.heap.objs.size f cdv))) :
    PSs (cxOf CX0 P w K mg base N_Cluster_live "Cluster.live" (defScope s_Cluster_live) f cdv A outer s H E).nox (defBody s_Cluster_live) (t_Cluster_live w K Sok) := by
  have nd : (N_Cluster_live).Nodup := sc_Cluster_live.nd
  exact (pss_one (ps_ret (pe_callTy call_tuple_of (by rfl) (fr "tuple" (by decide)) (by decide +kernel) (pa_cons (pe_lc (own := [("server", 1)]) (g := (gName 1)) (tt := (tB (tDNotIn (tVar 1) (tFldC (cC_Cluster K) (tVar 0) "dead")))) rfl nd (pi_range1 (by rfl) (fr "range" (by decide)) (pa_cons (pe_fldC cf_Cluster.1 (cf_Cluster.2 "n" (by decide)) (pv 0) (by rfl)) pa_nil)) (blkOk_by (N := N_Cluster_live) (sc := (defScope s_Cluster_live)) (by decide +kernel)) (fun _ _ _ _ _ => (pg_name (i := 1) nd rfl (Or.inl rfl))) (fun _ _ _ _ _ => (pts_one (pt_cmp (pc_dnotin (Nat.lt_of_le_of_lt (Nat.add_le_add_left (by decide) _) hr.units) (pv 1) (pe_fldC cf_Cluster.1 (cf_Cluster.2 "dead" (by decide)) (pv 0) (by rfl)))))) (fun _ _ _ _ _ => (pv 1))) pa_nil))))
/-! next_place -/
abbrev s_next_place : Stmt := topS 24
abbrev N_next_place : List Str := ["n", "count", "members", "rest", "width", "server", "larger"]
theorem sc_next_place : FnScope N_next_place ["n", "count", "members", "rest"] (defScope s_next_place) := ⟨rfl, rfl, rfl, by decide +kernel, rfl, by decide +kernel, by decide +kernel⟩
def t_next_place (w : World) (K : PySem.W.Frag) (Sok : List V → Prop) (pre_edge_divisor : Pre) (pre_outside : Pre) (pre_with_server : Pre) : TS :=
  (tSeq (tAsg (tOp rFdiv (tVar 1) (tCall (spD K Sok 2 pre_edge_divisor) [] E0 (tCons (tVar 0) (tCons (tCB (rLenB K) (tCons (tVar 2) tNil)) tNil)))) (gName 4))
  (tSeq (tAsg (tOp (rIx K) (tCall (spD K Sok 2 pre_outside) [] E0 (tCons (tVar 0) (tCons (tVar 2) tNil))) (tOp rFdiv (tVar 3) (tVar 4))) (gName 5))
  (tSeq (tAsg (tCall (spD K Sok 2 pre_with_server) [] E0 (tCons (tVar 2) (tCons (tVar 5) tNil))) (gName 6))
  (tRet (tTup (tCons (tVar 5) (tCons (tVar 6) (tCons (tOp (rAddA K) (tOp (rMulA K) (tBMN (rIndexT K) (tVar 6) (tCons (tVar 5) tNil)) (tVar 4)) (tOp rMod (tVar 3) (tVar 4))) tNil))))))))
theorem der_next_place {P : Program} {w : World} {K : PySem.W.Frag} {mg : Str → Option Value} {base : Heap} {Sok : List V → Prop} {pre_edge_divisor : Pre} {pre_outside : Pre} {pre_with_server : Pre} (fr : Free mg) (c_edge_divisor : C8.Cal P w K mg base 2 "edge_divisor" (spD K Sok 2 pre_edge_divisor) []) (c_outside : C8.Cal P w K mg base 1 "outside" (spD K Sok 2 pre_outside) []) (c_with_server : C8.Cal P w K mg base 1 "with_server" (spD K Sok 2 pre_with_server) []) {f : Addr} {cdv : Value} {A : Around} {outer : List Env} {s : Shared} {H : Hp} {E : XK} (hr : Room 2 (A.deeper (envOfC "next_place" (defScope s_next_place) s.heap.objs.size f cdv))) :
    PSs (cxOf CX0 P w K mg base N_next_place "next_place" (defScope s_next_place) f cdv A outer s H E).nox (defBody s_next_place) (t_next_place w K Sok pre_edge_divisor pre_outside pre_with_server) := by
  have nd : (N_next_place).Nodup := sc_next_place.nd
  exact (pss_cons (ps_set (i := 4) nd rfl (Or.inl rfl) (pe_op op_fdivW (pv 1) (C8.pe_c c_edge_divisor hr (by decide) (by rfl) (pa_cons (pv 0) (pa_cons (pe_callB call_len (by rfl) (fr "len" (by decide)) (by decide +kernel) (pa_cons (pv 2) pa_nil)) pa_nil)))))
    (pss_cons (ps_set (i := 5) nd rfl (Or.inl rfl) (pe_ix ix_seq (C8.pe_c c_outside hr (by decide) (by rfl) (pa_cons (pv 0) (pa_cons (pv 2) pa_nil))) (pe_op op_fdivW (pv 3) (pv 4)) (fun _ _ => rfl)))
    (pss_cons (ps_set (i := 6) nd rfl (Or.inl rfl) (C8.pe_c c_with_server hr (by decide) (by rfl) (pa_cons (pv 2) (pa_cons (pv 5) pa_nil))))
    (pss_one (ps_ret (pe_tup (pa_cons (pv 5) (pa_cons (pv 6) (pa_cons (pe_op op_addA (pe_op op_mulA (pe_bmN PySem.F.slot_tuple_index PySem.F.type_tuple_index mt_indexT (pv 6) (pa_cons (pv 5) pa_nil)) (pv 4)) (pe_op op_mod (pv 3) (pv 4))) pa_nil)))))))))
/-! walk -/
abbrev s_walk : Stmt := topS 25
abbrev N_walk : List Str := ["n", "depth", "count", "number", "order", "members", "rest", "step", "server"]
theorem sc_walk : FnScope N_walk ["n", "depth", "count", "number"] (defScope s_walk) := ⟨rfl, rfl, rfl, by decide +kernel, rfl, by decide +kernel, by decide +kernel⟩
def t_walk (w : World) (K : PySem.W.Frag) (Sok : List V → Prop) (pre_look_at_count : Pre) (pre_is_integer_numbers : Pre) (pre_next_place : Pre) : TS :=
  (tSeq (tDrop (tCall (spD K Sok 3 pre_look_at_count) [] E0 (tCons (tVar 0) (tCons (tVar 1) (tCons (tVar 2) tNil)))))
  (tSeq (tIfS (tOr (tNot (tB (tCall (spD K Sok 1 pre_is_integer_numbers) [] E0 (tCons (tVar 3) tNil)))) (tNot (tTest (tChain rLe rLt (tC (.int 0)) (tVar 3) (tVar 2))))) tNever tNext)
  (tSeq (tPar3 4 5 6 (tCons (tLst tNil) (tCons (tTup tNil) (tCons (tVar 3) tNil))))
  (tSeq (tFor (iRng1 (tCons (tVar 1) tNil)) (gName 7) (tSeq (tAsg (tCall (spD K Sok 4 pre_next_place) [] E0 (tCons (tVar 0) (tCons (tVar 2) (tCons (tVar 5) (tCons (tVar 6) tNil))))) (gTup K 3 (gCons (gName 8) (gCons (gName 5) (gCons (gName 6) gNil)))))
  (tDrop (tBM K "list" rAppend (tVar 4) (tCons (tVar 8) tNil)))))
  (tRet (tTup (tCons (tCB (rTupOf K) (tCons (tVar 4) tNil)) (tCons (tVar 5) (tCons (tVar 6) tNil)))))))))
theorem der_walk {P : Program} {w : World} {K : PySem.W.Frag} {mg : Str → Option Value} {base : Heap} {Sok : List V → Prop} {pre_look_at_count : Pre} {pre_is_integer_numbers : Pre} {pre_next_place : Pre} (fr : Free mg) (c_look_at_count : C8.Cal P w K mg base 5 "look_at_count" (spD K Sok 3 pre_look_at_count) []) (c_is_integer_numbers : C8.Cal P w K mg base 1 "is_integer_numbers" (spD K Sok 1 pre_is_integer_numbers) []) (c_next_place : C8.Cal P w K mg base 3 "next_place" (spD K Sok 4 pre_next_place) []) {f : Addr} {cdv : Value} {A : Around} {outer : List Env} {s : Shared} {H : Hp} {E : XK} (hr : Room 5 (A.deeper (envOfC "walk" (defScope s_walk) s.heap.objs.size f cdv))) :
    PSs (cxOf CX0 P w K mg base N_walk "walk" (defScope s_walk) f cdv A outer s H E).nox (defBody s_walk) (t_walk w K Sok pre_look_at_count pre_is_integer_numbers pre_next_place) := by
  have nd : (N_walk).Nodup := sc_walk.nd
  exact (pss_cons (ps_expr (C8.pe_c c_look_at_count hr (by decide) (by rfl) (pa_cons (pv 0) (pa_cons (pv 1) (pa_cons (pv 2) pa_nil)))))
    (pss_cons (ps_if (PW.pt (pw_or (pt_not (pt_val (C8.pe_c c_is_integer_numbers hr (by decide) (by rfl) (pa_cons (pv 3) pa_nil)))) (pw_or1 (pt_not (pt_chain op_le op_lt pe_int (pv 3) (pv 2)))))) (pss_one ps_never) pss_nil)
    (pss_cons (ps_par3 (i := 4) (j := 5) (l := 6) rfl nd rfl rfl rfl (by decide) (by decide) (by decide) rfl rfl rfl (pa_cons (pe_lst pa_nil) (pa_cons (pe_tup pa_nil) (pa_cons (pv 3) pa_nil))) (by rfl))
    (pss_cons (ps_for PassesOwn.never rfl (pi_range1 (by rfl) (fr "range" (by decide)) (pa_cons (pv 1) pa_nil)) (pg_name (i := 7) nd rfl (Or.inl rfl)) (pss_cons (ps_asg (C8.pe_c c_next_place hr (by decide) (by rfl) (pa_cons (pv 0) (pa_cons (pv 2) (pa_cons (pv 5) (pa_cons (pv 6) pa_nil))))) (pg_tup rfl (pgs_cons (pg_name (i := 8) nd rfl (Or.inl rfl)) (pgs_cons (pg_name (i := 5) nd rfl (Or.inl rfl)) (pgs_cons (pg_name (i := 6) nd rfl (Or.inl rfl)) pgs_nil)))))
    (pss_one (ps_expr (pe_bm PySem.F.plainAttrs_list PySem.F.slot_list_append PySem.F.type_list_append mt_append (pv 4) (pa_cons (pv 8) pa_nil))))))
    (pss_one (ps_ret (pe_tup (pa_cons (pe_callTy call_tuple_of (by rfl) (fr "tuple" (by decide)) (by decide +kernel) (pa_cons (pv 4) pa_nil)) (pa_cons (pv 5) (pa_cons (pv 6) pa_nil))))))))))
/-! list_at -/
abbrev s_list_at : Stmt := topS 26
abbrev N_list_at : List Str := ["n", "depth", "count", "number"]
theorem sc_list_at : FnScope N_list_at ["n", "depth", "count", "number"] (defScope s_list_at) := ⟨rfl, rfl, rfl, by decide +kernel, rfl, by decide +kernel, by decide +kernel⟩
def t_list_at (w : World) (K : PySem.W.Frag) (Sok : List V → Prop) (pre_walk : Pre) : TS :=
  (tRet (tOp (rIx K) (tCall (spD K Sok 4 pre_walk) [] E0 (tCons (tVar 0) (tCons (tVar 1) (tCons (tVar 2) (tCons (tVar 3) tNil))))) (tC (.int 0))))
theorem der_list_at {P : Program} {w : World} {K : PySem.W.Frag} {mg : Str → Option Value} {base : Heap} {Sok : List V → Prop} {pre_walk : Pre} (fr : Free mg) (c_walk : C8.Cal P w K mg base 6 "walk" (spD K Sok 4 pre_walk) []) {f : Addr} {cdv : Value} {A : Around} {outer : List Env} {s : Shared} {H : Hp} {E : XK} (hr : Room 6 (A.deeper (envOfC "list_at" (defScope s_list_at) s.heap.objs.size f cdv))) :
    PSs (cxOf CX0 P w K mg base N_list_at "list_at" (defScope s_list_at) f cdv A outer s H E).nox (defBody s_list_at) (t_list_at w K Sok pre_walk) := by
  have nd : (N_list_at).Nodup := sc_list_at.nd
  exact (pss_one (ps_ret (pe_ix ix_seq (C8.pe_c c_walk hr (by decide) (by rfl) (pa_cons (pv 0) (pa_cons (pv 1) (pa_cons (pv 2) (pa_cons (pv 3) pa_nil))))) pe_int (fun _ _ => rfl))))
/-! Cluster.order_of -/
abbrev s_Cluster_order_of : Stmt := (C8.clsBody (topS 39)).getD 5 (.Pass ⟨0, 0, 0, 0⟩)
abbrev N_Cluster_order_of : List Str := ["self", "shard"]
theorem sc_Cluster_order_of : FnScope N_Cluster_order_of ["self", "shard"] (defScope s_Cluster_order_of) := ⟨rfl, rfl, rfl, by decide +kernel, rfl, by decide +kernel, by decide +kernel⟩
def t_Cluster_order_of (w : World) (K : PySem.W.Frag) (Sok : List V → Prop) (pre_is_integer_cluster : Pre) (pre_list_at : Pre) : TS :=
  (tSeq (tIfS (tNot (tB (tCall (spD K Sok 3 pre_is_integer_cluster) [] E0 (tCons (tVar 1) (tCons (tC (.int 0)) (tCons (tOp rSubI (tFldC (cC_Cluster K) (tVar 0) "count") (tC (.int 1))) tNil)))))) tNever tNext)
  (tRet (tCall (spD K Sok 4 pre_list_at) [] E0 (tCons (tFldC (cC_Cluster K) (tVar 0) "n") (tCons (tFldC (cC_Cluster K) (tVar 0) "depth") (tCons (tFldC (cC_Cluster K) (tVar 0) "count") (tCons (tVar 1) tNil)))))))
theorem der_Cluster_order_of {P : Program} {w : World} {K : PySem.W.Frag} {mg : Str → Option Value} {base : Heap} {Sok : List V → Prop} {pre_is_integer_cluster : Pre} {pre_list_at : Pre} (fr : Free mg) (cf_Cluster : CF_Cluster K) (c_is_integer_cluster : C8.Cal P w K mg base 1 "is_integer_cluster" (spD K Sok 3 pre_is_integer_cluster) []) (c_list_at : C8.Cal P w K mg base 7 "list_at" (spD K Sok 4 pre_list_at) []) {f : Addr} {cdv : Value} {A : Around} {outer : List Env} {s : Shared} {H : Hp} {E : XK} (hr : Room 7 (A.deeper (envOfC "Cluster.order_of" (defScope s_Cluster_order_of) s.heap.objs.size f cdv))) :
    PSs (cxOf CX0 P w K mg base N_Cluster_order_of "Cluster.order_of" (defScope s_Cluster_order_of) f cdv A outer s H E).nox (defBody s_Cluster_order_of) (t_Cluster_order_of w K Sok pre_is_integer_cluster pre_list_at) := by
  have nd : (N_Cluster_order_of).Nodup := sc_Cluster_order_of.nd
  exact (pss_cons (ps_if (pt_not (pt_val (C8.pe_c c_is_integer_cluster hr (by decide) (by rfl) (pa_cons (pv 1) (pa_cons pe_int (pa_cons (pe_op op_sub (pe_fldC cf_Cluster.1 (cf_Cluster.2 "count" (by decide)) (pv 0) (by rfl)) pe_int) pa_nil)))))) (pss_one ps_never) pss_nil)
    (pss_one (ps_ret (C8.pe_c c_list_at hr (by decide) (by rfl) (pa_cons (pe_fldC cf_Cluster.1 (cf_Cluster.2 "n" (by decide)) (pv 0) (by rfl)) (pa_cons (pe_fldC cf_Cluster.1 (cf_Cluster.2 "depth" (by decide)) (pv 0) (by rfl)) (pa_cons (pe_fldC cf_Cluster.1 (cf_Cluster.2 "count" (by decide)) (pv 0) (by rfl)) (pa_cons (pv 1) pa_nil))))))))
/-! holders -/
abbrev s_holders : Stmt := topS 29
abbrev N_holders : List Str := ["order", "live", "factor", "found", "many", "server"]
theorem sc_holders : FnScope N_holders ["order", "live", "factor"] (defScope s_holders) := ⟨rfl, rfl, rfl, by decide +kernel, rfl, by decide +kernel, by decide +kernel⟩
def t_holders (w : World) (K : PySem.W.Frag) (Sok : List V → Prop) : TS :=
  (tSeq (tAsg (tLc (iAny K (tVar 0)) (gName 5) (tTest (tOp (rIn K false) (tVar 5) (tVar 1))) (tVar 5) [5]) (gName 3))
  (tSeq (tAsg (tCB (rMin2) (tCons (tVar 2) (tCons (tCB (rLenB K) (tCons (tVar 1) tNil)) tNil))) (gName 4))
  (tSeq (tIfS (tTest (tOp rLt (tCB (rLenB K) (tCons (tVar 3) tNil)) (tVar 4))) tNever tNext)
  (tRet (tCB (rTupOf K) (tCons (tSl (rSlA' K) (tVar 3) tNoPart (tPart (tVar 4))) tNil))))))
theorem der_holders {P : Program} {w : World} {K : PySem.W.Frag} {mg : Str → Option Value} {base : Heap} {Sok : List V → Prop} (fr : Free mg) {f : Addr} {cdv : Value} {A : Around} {outer : List Env} {s : Shared} {H : Hp} {E : XK} (hr : Room 0 (A.deeper (envOfC "holders" (defScope s_holders) s.heap.objs.size f cdv))) :
    PSs (cxOf CX0 P w K mg base N_holders "holders" (defScope s_holders) f cdv A outer s H E).nox (defBody s_holders) (t_holders w K Sok) := by
  have nd : (N_holders).Nodup := sc_holders.nd
  exact (pss_cons (ps_setLc (i := 3) (own := [("server", 5)]) (g := (gName 5)) (tt := (tTest (tOp (rIn K false) (tVar 5) (tVar 1)))) rfl nd rfl rfl (sw_true rfl rfl rfl (by decide +kernel)) (pi_any (pv 0)) (blkOk_by (N := N_holders) (sc := (defScope s_holders)) (by decide +kernel)) (fun _ _ _ _ _ => (pg_name (i := 5) nd rfl (Or.inl rfl))) (fun _ _ _ _ _ => (pts_one (pt_cmpR op_in_seq (pv 5) (pv 1) (by rfl)))) (fun _ _ _ _ _ => (pv 5)))
    (pss_cons (ps_set (i := 4) nd rfl (Or.inl rfl) (pe_callB (call_min2 rfl) (by rfl) (fr "min" (by decide)) (by decide +kernel) (pa_cons (pv 2) (pa_cons (pe_callB call_len (by rfl) (fr "len" (by decide)) (by decide +kernel) (pa_cons (pv 1) pa_nil)) pa_nil))))
    (pss_cons (ps_if (pt_cmpR op_lt (pe_callB call_len (by rfl) (fr "len" (by decide)) (by decide +kernel) (pa_cons (pv 3) pa_nil)) (pv 4) (nomark _)) (pss_one ps_never) pss_nil)
    (pss_one (ps_ret (pe_callTy call_tuple_of (by rfl) (fr "tuple" (by decide)) (by decide +kernel) (pa_cons (pe_slice sl_any (pv 3) po_none (po_some (pv 4))) pa_nil)))))))
/-! Cluster.owners -/
abbrev s_Cluster_owners : Stmt := (C8.clsBody (topS 39)).getD 6 (.Pass ⟨0, 0, 0, 0⟩)
abbrev N_Cluster_owners : List Str := ["self", "shard"]
theorem sc_Cluster_owners : FnScope N_Cluster_owners ["self", "shard"] (defScope s_Cluster_owners) := ⟨rfl, rfl, rfl, by decide +kernel, rfl, by decide +kernel, by decide +kernel⟩
def t_Cluster_owners (w : World) (K : PySem.W.Frag) (Sok : List V → Prop) (pre_Cluster_live : Pre) (pre_Cluster_order_of : Pre) (pre_holders : Pre) : TS :=
  (tRet (tCall (spD K Sok 3 pre_holders) [] E0 (tCons (tMeth (cC_Cluster K) "order_of" (spD K Sok 2 pre_Cluster_order_of) [] E0 (tVar 0) (tCons (tVar 1) tNil)) (tCons (tMeth (cC_Cluster K) "live" (spD K Sok 1 pre_Cluster_live) [] E0 (tVar 0) tNil) (tCons (tFldC (cC_Cluster K) (tVar 0) "factor") tNil)))))
theorem der_Cluster_owners {P : Program} {w : World} {K : PySem.W.Frag} {mg : Str → Option Value} {base : Heap} {Sok : List V → Prop} {pre_Cluster_live : Pre} {pre_Cluster_order_of : Pre} {pre_holders : Pre} (fr : Free mg) (cf_Cluster : CF_Cluster K) (c_Cluster_live : C8.Met P w K mg base 1 (cC_Cluster K) "live" (spD K Sok 1 pre_Cluster_live) []) (c_Cluster_order_of : C8.Met P w K mg base 8 (cC_Cluster K) "order_of" (spD K Sok 2 pre_Cluster_order_of) []) (c_holders : C8.Cal P w K mg base 1 "holders" (spD K Sok 3 pre_holders) []) {f : Addr} {cdv : Value} {A : Around} {outer : List Env} {s : Shared} {H : Hp} {E : XK} (hr : Room 8 (A.deeper (envOfC "Cluster.owners" (defScope s_Cluster_owners) s.heap.objs.size f cdv))) :
    PSs (cxOf CX0 P w K mg base N_Cluster_owners "Cluster.owners" (defScope s_Cluster_owners) f cdv A outer s H E).nox (defBody s_Cluster_owners) (t_Cluster_owners w K Sok pre_Cluster_live pre_Cluster_order_of pre_holders) := by
  have nd : (N_Cluster_owners).Nodup := sc_Cluster_owners.nd
  exact (pss_one (ps_ret (C8.pe_c c_holders hr (by decide) (by rfl) (pa_cons (C8.pe_mt c_Cluster_order_of hr (by decide) (pv 0) (pa_cons (pv 1) pa_nil)) (pa_cons (C8.pe_mt0 c_Cluster_live hr (by decide) (pv 0)) (pa_cons (pe_fldC cf_Cluster.1 (cf_Cluster.2 "factor" (by decide)) (pv 0) (by rfl)) pa_nil))))))
/-! Cluster.__len__ -/
abbrev s_Cluster_len : Stmt := (C8.clsBody (topS 39)).getD 2 (.Pass ⟨0, 0, 0, 0⟩)
abbrev N_Cluster_len : List Str := ["self"]
theorem sc_Cluster_len : FnScope N_Cluster_len ["self"] (defScope s_Cluster_len) := ⟨rfl, rfl, rfl, by decide +kernel, rfl, by decide +kernel, by decide +kernel⟩
def t_Cluster_len (w : World) (K : PySem.W.Frag) (Sok : List V → Prop) (pre_Cluster_live : Pre) : TS :=
  (tRet (tCB (rLenB K) (tCons (tMeth (cC_Cluster K) "live" (spD K Sok 1 pre_Cluster_live) [] E0 (tVar 0) tNil) tNil)))
theorem der_Cluster_len {P : Program} {w : World} {K : PySem.W.Frag} {mg : Str → Option Value} {base : Heap} {Sok : List V → Prop} {pre_Cluster_live : Pre} (fr : Free mg) (cf_Cluster : CF_Cluster K) (c_Cluster_live : C8.Met P w K mg base 1 (cC_Cluster K) "live" (spD K Sok 1 pre_Cluster_live) []) {f : Addr} {cdv : Value} {A : Around} {outer : List Env} {s : Shared} {H : Hp} {E : XK} (hr : Room 1 (A.deeper (envOfC "Cluster.__len__" (defScope s_Cluster_len) s.heap.objs.size f cdv))) :
    PSs (cxOf CX0 P w K mg base N_Cluster_len "Cluster.__len__" (defScope s_Cluster_len) f cdv A outer s H E).nox (defBody s_Cluster_len) (t_Cluster_len w K Sok pre_Cluster_live) := by
  have nd : (N_Cluster_len).Nodup := sc_Cluster_len.nd
  exact (pss_one (ps_ret (pe_callB call_len (by rfl) (fr "len" (by decide)) (by decide +kernel) (pa_cons (C8.pe_mt0 c_Cluster_live hr (by decide) (pv 0)) pa_nil))))
/-! Cluster.is_live -/
abbrev s_Cluster_is_live : Stmt := (C8.clsBody (topS 39)).getD 4 (.Pass ⟨0, 0, 0, 0⟩)
abbrev N_Cluster_is_live : List Str := ["self", "server"]
theorem sc_Cluster_is_live : FnScope N_Cluster_is_live ["self", "server"] (defScope s_Cluster_is_live) := ⟨rfl, rfl, rfl, by decide +kernel, rfl, by decide +kernel, by decide +kernel⟩
def t_Cluster_is_live (w : World) (K : PySem.W.Frag) (Sok : List V → Prop) (pre_is_integer_cluster : Pre) : TS :=
  (tRet (tAndV (tCall (spD K Sok 3 pre_is_integer_cluster) [] E0 (tCons (tVar 1) (tCons (tC (.int 0)) (tCons (tOp rSubI (tFldC (cC_Cluster K) (tVar 0) "n") (tC (.int 1))) tNil)))) (tDNotIn (tVar 1) (tFldC (cC_Cluster K) (tVar 0) "dead"))))
theorem der_Cluster_is_live {P : Program} {w : World} {K : PySem.W.Frag} {mg : Str → Option Value} {base : Heap} {Sok : List V → Prop} {pre_is_integer_cluster : Pre} (fr : Free mg) (cf_Cluster : CF_Cluster K) (c_is_integer_cluster : C8.Cal P w K mg base 1 "is_integer_cluster" (spD K Sok 3 pre_is_integer_cluster) []) {f : Addr} {cdv : Value} {A : Around} {outer : List Env} {s : Shared} {H : Hp} {E : XK} (hr : Room 1 (A.deeper (envOfC "Cluster.is_live" (defScope s_Cluster_is_live) s.heap.objs.size f cdv))) :
    PSs (cxOf CX0 P w K mg base N_Cluster_is_live "Cluster.is_live" (defScope s_Cluster_is_live) f cdv A outer s H E).nox (defBody s_Cluster_is_live) (t_Cluster_is_live w K Sok pre_is_integer_cluster) := by
  have nd : (N_Cluster_is_live).Nodup := sc_Cluster_is_live.nd
  exact (pss_one (ps_ret (pe_and (C8.pe_c c_is_integer_cluster hr (by decide) (by rfl) (pa_cons (pv 1) (pa_cons pe_int (pa_cons (pe_op op_sub (pe_fldC cf_Cluster.1 (cf_Cluster.2 "n" (by decide)) (pv 0) (by rfl)) pe_int) pa_nil)))) (pe_one (pe_cmp (pc_dnotin (Nat.lt_of_le_of_lt (Nat.add_le_add_left (by decide) _) hr.units) (pv 1) (pe_fldC cf_Cluster.1 (cf_Cluster.2 "dead" (by decide)) (pv 0) (by rfl))))))))
/-! Cluster.check_failure -/
abbrev s_Cluster_check_failure : Stmt := (C8.clsBody (topS 39)).getD 8 (.Pass ⟨0, 0, 0, 0⟩)
abbrev N_Cluster_check_failure : List Str := ["self", "server"]
theorem sc_Cluster_check_failure : FnScope N_Cluster_check_failure ["self", "server"] (defScope s_Cluster_check_failure) := ⟨rfl, rfl, rfl, by decide +kernel, rfl, by decide +kernel, by decide +kernel⟩
def t_Cluster_check_failure (w : World) (K : PySem.W.Frag) (Sok : List V → Prop) (pre_Cluster_is_live : Pre) : TS :=
  (tSeq (tIfS (tNot (tB (tMeth (cC_Cluster K) "is_live" (spD K Sok 2 pre_Cluster_is_live) [] E0 (tVar 0) (tCons (tVar 1) tNil)))) tNever tNext)
  (tIfS (tTest (tOp (rEqA K) (tCB rLenD (tCons (tFldC (cC_Cluster K) (tVar 0) "dead") tNil)) (tFldC (cC_Cluster K) (tVar 0) "failures"))) tNever tNext))
theorem der_Cluster_check_failure {P : Program} {w : World} {K : PySem.W.Frag} {mg : Str → Option Value} {base : Heap} {Sok : List V → Prop} {pre_Cluster_is_live : Pre} (fr : Free mg) (cf_Cluster : CF_Cluster K) (c_Cluster_is_live : C8.Met P w K mg base 2 (cC_Cluster K) "is_live" (spD K Sok 2 pre_Cluster_is_live) []) {f : Addr} {cdv : Value} {A : Around} {outer : List Env} {s : Shared} {H : Hp} {E : XK} (hr : Room 2 (A.deeper (envOfC "Cluster.check_failure" (defScope s_Cluster_check_failure) s.heap.objs.size f cdv))) :
    PSs (cxOf CX0 P w K mg base N_Cluster_check_failure "Cluster.check_failure" (defScope s_Cluster_check_failure) f cdv A outer s H E).nox (defBody s_Cluster_check_failure) (t_Cluster_check_failure w K Sok pre_Cluster_is_live) := by
  have nd : (N_Cluster_check_failure).Nodup := sc_Cluster_check_failure.nd
  exact (pss_cons (ps_if (pt_not (pt_val (C8.pe_mt c_Cluster_is_live hr (by decide) (pv 0) (pa_cons (pv 1) pa_nil)))) (pss_one ps_never) pss_nil)
    (pss_one (ps_if (pt_cmpR (op_eqA hr.units) (pe_callB call_lenD (by rfl) (fr "len" (by decide)) (by decide +kernel) (pa_cons (pe_fldC cf_Cluster.1 (cf_Cluster.2 "dead" (by decide)) (pv 0) (by rfl)) pa_nil)) (pe_fldC cf_Cluster.1 (cf_Cluster.2 "failures" (by decide)) (pv 0) (by rfl)) (nomark _)) (pss_one ps_never) pss_nil)))
/-! live_in -/
abbrev s_live_in : Stmt := topS 31
abbrev N_live_in : List Str := ["order", "live", "server"]
theorem sc_live_in : FnScope N_live_in ["order", "live"] (defScope s_live_in) := ⟨rfl, rfl, rfl, by decide +kernel, rfl, by decide +kernel, by decide +kernel⟩
def t_live_in (w : World) (K : PySem.W.Frag) (Sok : List V → Prop) : TS :=
  (tRet (tLc (iAny K (tVar 0)) (gName 2) (tTest (tOp (rIn K false) (tVar 2) (tVar 1))) (tVar 2) [2]))
theorem der_live_in {P : Program} {w : World} {K : PySem.W.Frag} {mg : Str → Option Value} {base : Heap} {Sok : List V → Prop} (fr : Free mg) {f : Addr} {cdv : Value} {A : Around} {outer : List Env} {s : Shared} {H : Hp} {E : XK} (hr : Room 0 (A.deeper (envOfC "live_in" (defScope s_live_in) s.heap.objs.size f cdv))) :
    PSs (cxOf CX0 P w K mg base N_live_in "live_in" (defScope s_live_in) f cdv A outer s H E).nox (defBody s_live_in) (t_live_in w K Sok) := by
  have nd : (N_live_in).Nodup := sc_live_in.nd
  exact (pss_one (ps_ret (pe_lc (own := [("server", 2)]) (g := (gName 2)) (tt := (tTest (tOp (rIn K false) (tVar 2) (tVar 1)))) rfl nd (pi_any (pv 0)) (blkOk_by (N := N_live_in) (sc := (defScope s_live_in)) (by decide +kernel)) (fun _ _ _ _ _ => (pg_name (i := 2) nd rfl (Or.inl rfl))) (fun _ _ _ _ _ => (pts_one (pt_cmpR op_in_seq (pv 2) (pv 1) (by rfl)))) (fun _ _ _ _ _ => (pv 2)))))
/-! successor_failures -/
abbrev s_successor_failures : Stmt := topS 32
abbrev N_successor_failures : List Str := ["order", "live", "factor", "failed", "some"]
theorem sc_successor_failures : FnScope N_successor_failures ["order", "live", "factor", "failed"] (defScope s_successor_failures) := ⟨rfl, rfl, rfl, by decide +kernel, rfl, by decide +kernel, by decide +kernel⟩
def t_successor_failures (w : World) (K : PySem.W.Frag) (Sok : List V → Prop) (pre_live_in : Pre) : TS :=
  (tSeq (tAsg (tCall (spD K Sok 2 pre_live_in) [] E0 (tCons (tVar 0) (tCons (tVar 1) tNil))) (gName 4))
  (tSeq (tIfS (tTest (tOp rLe (tCB (rLenB K) (tCons (tVar 4) tNil)) (tVar 2))) tNever tNext)
  (tRet (tIf (tTest (tOp (rIn K false) (tVar 3) (tSl (rSlA' K) (tVar 4) tNoPart (tPart (tVar 2))))) (tOp (rIx K) (tVar 4) (tVar 2)) (tC .non)))))
theorem der_successor_failures {P : Program} {w : World} {K : PySem.W.Frag} {mg : Str → Option Value} {base : Heap} {Sok : List V → Prop} {pre_live_in : Pre} (fr : Free mg) (c_live_in : C8.Cal P w K mg base 1 "live_in" (spD K Sok 2 pre_live_in) []) {f : Addr} {cdv : Value} {A : Around} {outer : List Env} {s : Shared} {H : Hp} {E : XK} (hr : Room 1 (A.deeper (envOfC "successor" (defScope s_successor_failures) s.heap.objs.size f cdv))) :
    PSs (cxOf CX0 P w K mg base N_successor_failures "successor" (defScope s_successor_failures) f cdv A outer s H E).nox (defBody s_successor_failures) (t_successor_failures w K Sok pre_live_in) := by
  have nd : (N_successor_failures).Nodup := sc_successor_failures.nd
  exact (pss_cons (ps_set (i := 4) nd rfl (Or.inl rfl) (C8.pe_c c_live_in hr (by decide) (by rfl) (pa_cons (pv 0) (pa_cons (pv 1) pa_nil))))
    (pss_cons (ps_if (pt_cmpR op_le (pe_callB call_len (by rfl) (fr "len" (by decide)) (by decide +kernel) (pa_cons (pv 4) pa_nil)) (pv 2) (nomark _)) (pss_one ps_never) pss_nil)
    (pss_one (ps_ret (pe_ifExp (pt_cmpR op_in_seq (pv 3) (pe_slice sl_any (pv 4) po_none (po_some (pv 2))) (by rfl)) (pe_ix ix_seq (pv 4) (pv 2) (fun _ _ => rfl)) pe_non)))))
/-! Cluster.successor -/
abbrev s_Cluster_successor : Stmt := (C8.clsBody (topS 39)).getD 9 (.Pass ⟨0, 0, 0, 0⟩)
abbrev N_Cluster_successor : List Str := ["self", "shard", "server", "order", "live"]
theorem sc_Cluster_successor : FnScope N_Cluster_successor ["self", "shard", "server"] (defScope s_Cluster_successor) := ⟨rfl, rfl, rfl, by decide +kernel, rfl, by decide +kernel, by decide +kernel⟩
def t_Cluster_successor (w : World) (K : PySem.W.Frag) (Sok : List V → Prop) (pre_Cluster_order_of : Pre) (pre_Cluster_check_failure : Pre) (pre_Cluster_live : Pre) (pre_successor_failures : Pre) : TS :=
  (tSeq (tAsg (tMeth (cC_Cluster K) "order_of" (spD K Sok 2 pre_Cluster_order_of) [] E0 (tVar 0) (tCons (tVar 1) tNil)) (gName 3))
  (tSeq (tDrop (tMeth (cC_Cluster K) "check_failure" (spD K Sok 2 pre_Cluster_check_failure) [] E0 (tVar 0) (tCons (tVar 2) tNil)))
  (tSeq (tAsg (tMeth (cC_Cluster K) "live" (spD K Sok 1 pre_Cluster_live) [] E0 (tVar 0) tNil) (gName 4))
  (tRet (tIf (tTest (tOp rGt (tCB (rLenB K) (tCons (tVar 4) tNil)) (tFldC (cC_Cluster K) (tVar 0) "factor"))) (tCall (spD K Sok 4 pre_successor_failures) [] E0 (tCons (tVar 3) (tCons (tVar 4) (tCons (tFldC (cC_Cluster K) (tVar 0) "factor") (tCons (tVar 2) tNil))))) (tC .non))))))
theorem der_Cluster_successor {P : Program} {w : World} {K : PySem.W.Frag} {mg : Str → Option Value} {base : Heap} {Sok : List V → Prop} {pre_Cluster_order_of : Pre} {pre_Cluster_check_failure : Pre} {pre_Cluster_live : Pre} {pre_successor_failures : Pre} (fr : Free mg) (cf_Cluster : CF_Cluster K) (c_Cluster_order_of : C8.Met P w K mg base 8 (cC_Cluster K) "order_of" (spD K Sok 2 pre_Cluster_order_of) []) (c_Cluster_check_failure : C8.Met P w K mg base 3 (cC_Cluster K) "check_failure" (spD K Sok 2 pre_Cluster_check_failure) []) (c_Cluster_live : C8.Met P w K mg base 1 (cC_Cluster K) "live" (spD K Sok 1 pre_Cluster_live) []) (c_successor_failures : C8.Cal P w K mg base 2 "successor_failures" (spD K Sok 4 pre_successor_failures) []) {f : Addr} {cdv : Value} {A : Around} {outer : List Env} {s : Shared} {H : Hp} {E : XK} (hr : Room 8 (A.deeper (envOfC "Cluster.successor" (defScope s_Cluster_successor) s.heap.objs.size f cdv))) :
    PSs (cxOf CX0 P w K mg base N_Cluster_successor "Cluster.successor" (defScope s_Cluster_successor) f cdv A outer s H E).nox (defBody s_Cluster_successor) (t_Cluster_successor w K Sok pre_Cluster_order_of pre_Cluster_check_failure pre_Cluster_live pre_successor_failures) := by
  have nd : (N_Cluster_successor).Nodup := sc_Cluster_successor.nd
  exact (pss_cons (ps_set (i := 3) nd rfl (Or.inl rfl) (C8.pe_mt c_Cluster_order_of hr (by decide) (pv 0) (pa_cons (pv 1) pa_nil)))
    (pss_cons (ps_expr (C8.pe_mt c_Cluster_check_failure hr (by decide) (pv 0) (pa_cons (pv 2) pa_nil)))
    (pss_cons (ps_set (i := 4) nd rfl (Or.inl rfl) (C8.pe_mt0 c_Cluster_live hr (by decide) (pv 0)))
    (pss_one (ps_ret (pe_ifExp (pt_cmpR op_gt (pe_callB call_len (by rfl) (fr "len" (by decide)) (by decide +kernel) (pa_cons (pv 4) pa_nil)) (pe_fldC cf_Cluster.1 (cf_Cluster.2 "factor" (by decide)) (pv 0) (by rfl)) (nomark _)) (C8.pe_c c_successor_failures hr (by decide) (by rfl) (pa_cons (pv 3) (pa_cons (pv 4) (pa_cons (pe_fldC cf_Cluster.1 (cf_Cluster.2 "factor" (by decide)) (pv 0) (by rfl)) (pa_cons (pv 2) pa_nil))))) pe_non))))))
/-! Cluster.load -/
abbrev s_Cluster_load : Stmt := (C8.clsBody (topS 39)).getD 7 (.Pass ⟨0, 0, 0, 0⟩)
abbrev N_Cluster_load : List Str := ["self", "server", "alive"]
theorem sc_Cluster_load : FnScope N_Cluster_load ["self", "server"] (defScope s_Cluster_load) := ⟨rfl, rfl, rfl, by decide +kernel, rfl, by decide +kernel, by decide +kernel⟩
def t_Cluster_load (w : World) (K : PySem.W.Frag) (Sok : List V → Prop) (pre_Cluster_is_live : Pre) (pre_Cluster_live : Pre) : TS :=
  (tSeq (tIfS (tNot (tB (tMeth (cC_Cluster K) "is_live" (spD K Sok 2 pre_Cluster_is_live) [] E0 (tVar 0) (tCons (tVar 1) tNil)))) tNever tNext)
  (tSeq (tAsg (tCB (rLenB K) (tCons (tMeth (cC_Cluster K) "live" (spD K Sok 1 pre_Cluster_live) [] E0 (tVar 0) tNil) tNil)) (gName 2))
  (tRet (tOp rFdiv (tOp (rMulA K) (tFldC (cC_Cluster K) (tVar 0) "count") (tCB (rMin2) (tCons (tFldC (cC_Cluster K) (tVar 0) "factor") (tCons (tVar 2) tNil)))) (tVar 2)))))
theorem der_Cluster_load {P : Program} {w : World} {K : PySem.W.Frag} {mg : Str → Option Value} {base : Heap} {Sok : List V → Prop} {pre_Cluster_is_live : Pre} {pre_Cluster_live : Pre} (fr : Free mg) (cf_Cluster : CF_Cluster K) (c_Cluster_is_live : C8.Met P w K mg base 2 (cC_Cluster K) "is_live" (spD K Sok 2 pre_Cluster_is_live) []) (c_Cluster_live : C8.Met P w K mg base 1 (cC_Cluster K) "live" (spD K Sok 1 pre_Cluster_live) []) {f : Addr} {cdv : Value} {A : Around} {outer : List Env} {s : Shared} {H : Hp} {E : XK} (hr : Room 2 (A.deeper (envOfC "Cluster.load" (defScope s_Cluster_load) s.heap.objs.size f cdv))) :
    PSs (cxOf CX0 P w K mg base N_Cluster_load "Cluster.load" (defScope s_Cluster_load) f cdv A outer s H E).nox (defBody s_Cluster_load) (t_Cluster_load w K Sok pre_Cluster_is_live pre_Cluster_live) := by
  have nd : (N_Cluster_load).Nodup := sc_Cluster_load.nd
  exact (pss_cons (ps_if (pt_not (pt_val (C8.pe_mt c_Cluster_is_live hr (by decide) (pv 0) (pa_cons (pv 1) pa_nil)))) (pss_one ps_never) pss_nil)
    (pss_cons (ps_set (i := 2) nd rfl (Or.inl rfl) (pe_callB call_len (by rfl) (fr "len" (by decide)) (by decide +kernel) (pa_cons (C8.pe_mt0 c_Cluster_live hr (by decide) (pv 0)) pa_nil)))
    (pss_one (ps_ret (pe_op op_fdivW (pe_op op_mulA (pe_fldC cf_Cluster.1 (cf_Cluster.2 "count" (by decide)) (pv 0) (by rfl)) (pe_callB (call_min2 rfl) (by rfl) (fr "min" (by decide)) (by decide +kernel) (pa_cons (pe_fldC cf_Cluster.1 (cf_Cluster.2 "factor" (by decide)) (pv 0) (by rfl)) (pa_cons (pv 2) pa_nil)))) (pv 2))))))
/-! Cluster.fail -/
abbrev s_Cluster_fail : Stmt := (C8.clsBody (topS 39)).getD 10 (.Pass ⟨0, 0, 0, 0⟩)
abbrev N_Cluster_fail : List Str := ["self", "server", "many"]
theorem sc_Cluster_fail : FnScope N_Cluster_fail ["self", "server"] (defScope s_Cluster_fail) := ⟨rfl, rfl, rfl, by decide +kernel, rfl, by decide +kernel, by decide +kernel⟩
def t_Cluster_fail (w : World) (K : PySem.W.Frag) (Sok : List V → Prop) (pre_Cluster_check_failure : Pre) (pre_Cluster_live : Pre) (pre_Cluster_load : Pre) : TS :=
  (tSeq (tDrop (tMeth (cC_Cluster K) "check_failure" (spD K Sok 2 pre_Cluster_check_failure) [] E0 (tVar 0) (tCons (tVar 1) tNil)))
  (tSeq (tAsg (tIf (tTest (tOp rGt (tCB (rLenB K) (tCons (tMeth (cC_Cluster K) "live" (spD K Sok 1 pre_Cluster_live) [] E0 (tVar 0) tNil) tNil)) (tFldC (cC_Cluster K) (tVar 0) "factor"))) (tMeth (cC_Cluster K) "load" (spD K Sok 2 pre_Cluster_load) [] E0 (tVar 0) (tCons (tVar 1) tNil)) (tC (.int 0))) (gName 2))
  (tSeq (tAsg (tC (.bl true)) (gSub (tFldC (cC_Cluster K) (tVar 0) "dead") (tVar 1) rSetD))
  (tSeq (tDrop (tBM K "list" rAppend (tFldC (cC_Cluster K) (tVar 0) "done") (tCons (tTup (tCons (tVar 1) (tCons (tVar 2) tNil))) tNil)))
  (tRet (tVar 2))))))
theorem der_Cluster_fail {P : Program} {w : World} {K : PySem.W.Frag} {mg : Str → Option Value} {base : Heap} {Sok : List V → Prop} {pre_Cluster_check_failure : Pre} {pre_Cluster_live : Pre} {pre_Cluster_load : Pre} (fr : Free mg) (cf_Cluster : CF_Cluster K) (c_Cluster_check_failure : C8.Met P w K mg base 3 (cC_Cluster K) "check_failure" (spD K Sok 2 pre_Cluster_check_failure) []) (c_Cluster_live : C8.Met P w K mg base 1 (cC_Cluster K) "live" (spD K Sok 1 pre_Cluster_live) []) (c_Cluster_load : C8.Met P w K mg base 3 (cC_Cluster K) "load" (spD K Sok 2 pre_Cluster_load) []) {f : Addr} {cdv : Value} {A : Around} {outer : List Env} {s : Shared} {H : Hp} {E : XK} (hr : Room 3 (A.deeper (envOfC "Cluster.fail" (defScope s_Cluster_fail) s.heap.objs.size f cdv))) :
    PSs (cxOf CX0 P w K mg base N_Cluster_fail "Cluster.fail" (defScope s_Cluster_fail) f cdv A outer s H E).nox (defBody s_Cluster_fail) (t_Cluster_fail w K Sok pre_Cluster_check_failure pre_Cluster_live pre_Cluster_load) := by
  have nd : (N_Cluster_fail).Nodup := sc_Cluster_fail.nd
  exact (pss_cons (ps_expr (C8.pe_mt c_Cluster_check_failure hr (by decide) (pv 0) (pa_cons (pv 1) pa_nil)))
    (pss_cons (ps_set (i := 2) nd rfl (Or.inl rfl) (pe_ifExp (pt_cmpR op_gt (pe_callB call_len (by rfl) (fr "len" (by decide)) (by decide +kernel) (pa_cons (C8.pe_mt0 c_Cluster_live hr (by decide) (pv 0)) pa_nil)) (pe_fldC cf_Cluster.1 (cf_Cluster.2 "factor" (by decide)) (pv 0) (by rfl)) (nomark _)) (C8.pe_mt c_Cluster_load hr (by decide) (pv 0) (pa_cons (pv 1) pa_nil)) pe_int))
    (pss_cons (ps_asg pe_bl (pg_sub (pe_fldC cf_Cluster.1 (cf_Cluster.2 "dead" (by decide)) (pv 0) (by rfl)) (pv 1) (set_dict (Nat.lt_of_le_of_lt (Nat.add_le_add_left (by decide) _) hr.units))))
    (pss_cons (ps_expr (pe_bm PySem.F.plainAttrs_list PySem.F.slot_list_append PySem.F.type_list_append mt_append (pe_fldC cf_Cluster.1 (cf_Cluster.2 "done" (by decide)) (pv 0) (by rfl)) (pa_cons (pe_tup (pa_cons (pv 1) (pa_cons (pv 2) pa_nil))) pa_nil)))
    (pss_one (ps_ret (pv 2)))))))
/-! _law_fails -/
abbrev s_law_fails : Stmt := topS 47
abbrev N_law_fails : List Str := ["_law_cluster", "_law_sizes", "_law_server", "_law_shards_here", "_law_n", "_law_down", "_law_copies_of", "_law_total", "_law_number", "_law_alive", "_law_before", "_law_heard", "_law_told", "_law_one", "_law_new", "_law_kept", "_law_due", "_law_holder"]
theorem sc_law_fails : FnScope N_law_fails ["_law_cluster", "_law_sizes", "_law_server", "_law_shards_here"] (defScope s_law_fails) := ⟨rfl, rfl, rfl, by decide +kernel, rfl, by decide +kernel, by decide +kernel⟩
def t_law_fails (w : World) (K : PySem.W.Frag) (Sok : List V → Prop) (pre_Cluster_owners : Pre) (pre_Cluster_len : Pre) (pre_Cluster_successor : Pre) (pre_Cluster_fail : Pre) : TS :=
  (tSeq (tAsg (tVar 1) (gTup K 4 (gCons (gName 4) (gCons (gName 5) (gCons (gName 6) (gCons (gName 7) gNil))))))
  (tSeq (tPar 9 10 (tCons (tCB (rLenOwn (cC_Cluster K) (spD K Sok 1 pre_Cluster_len)) (tCons (tVar 0) tNil)) (tCons (tLc (iAny K (tVar 3)) (gName 8) tYes (tMeth (cC_Cluster K) "owners" (spD K Sok 2 pre_Cluster_owners) [] E0 (tVar 0) (tCons (tVar 8) tNil)) [8]) tNil)))
  (tSeq (tAsg (tLc (iAny K (tVar 3)) (gName 8) tYes (tMeth (cC_Cluster K) "successor" (spD K Sok 3 pre_Cluster_successor) [] E0 (tVar 0) (tCons (tVar 8) (tCons (tVar 2) tNil))) [8]) (gName 11))
  (tSeq (tAsg (tMeth (cC_Cluster K) "fail" (spD K Sok 2 pre_Cluster_fail) [] E0 (tVar 0) (tCons (tVar 2) tNil)) (gName 12))
  (tSeq (tIfS (tOr (tTest (tOp (rNeA K) (tVar 12) (tOp rFdiv (tOp (rMulA K) (tVar 7) (tVar 6)) (tVar 9)))) (tTest (tOp (rNeA K) (tOp rMod (tVar 12) (tOp rSubI (tVar 9) (tC (.int 1)))) (tC (.int 0))))) (tRet (tC (.bl false))) tNext)
  (tSeq (tFor (iZip3 K (tCons (tVar 3) (tCons (tVar 10) (tCons (tVar 11) tNil)))) (gTup K 3 (gCons (gName 8) (gCons (gName 13) (gCons (gName 14) gNil)))) (tSeq (tAsg (tCB (rTupOf K) (tCons (tLc (iAny K (tVar 13)) (gName 17) (tTest (tOp (rNeA K) (tVar 17) (tVar 2))) (tVar 17) [17]) tNil)) (gName 15))
  (tSeq (tAsg (tIf (tTest (tOp (rIn K false) (tVar 2) (tVar 13))) (tOp (rAddA K) (tVar 15) (tTup (tCons (tVar 14) tNil))) (tVar 13)) (gName 16))
  (tIfS (tOr (tTest (tOp (rNeA K) (tMeth (cC_Cluster K) "owners" (spD K Sok 2 pre_Cluster_owners) [] E0 (tVar 0) (tCons (tVar 8) tNil)) (tVar 16))) (tTest (tOp (rNeA K) (tOp rIsN (tVar 14) (tC .non)) (tOp (rIn K true) (tVar 2) (tVar 13))))) (tRet (tC (.bl false))) tNext))))
  (tRet (tC (.bl true)))))))))
theorem der_law_fails {P : Program} {w : World} {K : PySem.W.Frag} {mg : Str → Option Value} {base : Heap} {Sok : List V → Prop} {pre_Cluster_owners : Pre} {pre_Cluster_len : Pre} {pre_Cluster_successor : Pre} {pre_Cluster_fail : Pre} (fr : Free mg) (cf_Cluster : CF_Cluster K) (c_Cluster_owners : C8.Met P w K mg base 9 (cC_Cluster K) "owners" (spD K Sok 2 pre_Cluster_owners) []) (c_Cluster_len : C8.Met P w K mg base 2 (cC_Cluster K) "__len__" (spD K Sok 1 pre_Cluster_len) []) (c_Cluster_successor : C8.Met P w K mg base 9 (cC_Cluster K) "successor" (spD K Sok 3 pre_Cluster_successor) []) (c_Cluster_fail : C8.Met P w K mg base 4 (cC_Cluster K) "fail" (spD K Sok 2 pre_Cluster_fail) []) {f : Addr} {cdv : Value} {A : Around} {outer : List Env} {s : Shared} {H : Hp} {E : XK} (hr : Room 9 (A.deeper (envOfC "_law_fails" (defScope s_law_fails) s.heap.objs.size f cdv))) :
    PSs (cxOf CX0 P w K mg base N_law_fails "_law_fails" (defScope s_law_fails) f cdv A outer s H E).nox (defBody s_law_fails) (t_law_fails w K Sok pre_Cluster_owners pre_Cluster_len pre_Cluster_successor pre_Cluster_fail) := by
  have nd : (N_law_fails).Nodup := sc_law_fails.nd
  exact (pss_cons (ps_asg (pv 1) (pg_tup rfl (pgs_cons (pg_name (i := 4) nd rfl (Or.inl rfl)) (pgs_cons (pg_name (i := 5) nd rfl (Or.inl rfl)) (pgs_cons (pg_name (i := 6) nd rfl (Or.inl rfl)) (pgs_cons (pg_name (i := 7) nd rfl (Or.inl rfl)) pgs_nil))))))
    (pss_cons (ps_par (i := 9) (j := 10) rfl nd rfl rfl (by decide) rfl rfl (pa_cons (pe_callB (cr_lenOwn c_Cluster_len hr (by decide)) (by rfl) (fr "len" (by decide)) (by decide +kernel) (pa_cons (pv 0) pa_nil)) (pa_cons (pe_lc (own := [("_law_number", 8)]) (g := (gName 8)) (tt := tYes) rfl nd (pi_any (pv 3)) (blkOk_by (N := N_law_fails) (sc := (defScope s_law_fails)) (by decide +kernel)) (fun _ _ _ _ _ => (pg_name (i := 8) nd rfl (Or.inl rfl))) (fun _ _ _ _ _ => pts_nil) (fun _ _ _ _ _ => (C8.pe_mt c_Cluster_owners hr (by decide) (pv 0) (pa_cons (pv 8) pa_nil)))) pa_nil)) (by rfl))
    (pss_cons (ps_setLc (i := 11) (own := [("_law_number", 8)]) (g := (gName 8)) (tt := tYes) rfl nd rfl rfl (sw_true rfl rfl rfl (by decide +kernel)) (pi_any (pv 3)) (blkOk_by (N := N_law_fails) (sc := (defScope s_law_fails)) (by decide +kernel)) (fun _ _ _ _ _ => (pg_name (i := 8) nd rfl (Or.inl rfl))) (fun _ _ _ _ _ => pts_nil) (fun _ _ _ _ _ => (C8.pe_mt c_Cluster_successor hr (by decide) (pv 0) (pa_cons (pv 8) (pa_cons (pv 2) pa_nil)))))
    (pss_cons (ps_set (i := 12) nd rfl (Or.inl rfl) (C8.pe_mt c_Cluster_fail hr (by decide) (pv 0) (pa_cons (pv 2) pa_nil)))
    (pss_cons (ps_if (PW.pt (pw_or (pt_cmpR (op_neA hr.units) (pv 12) (pe_op op_fdivW (pe_op op_mulA (pv 7) (pv 6)) (pv 9)) (nomark _)) (pw_or1 (pt_cmpR (op_neA hr.units) (pe_op op_mod (pv 12) (pe_op op_sub (pv 9) pe_int)) pe_int (nomark _))))) (pss_one (ps_ret pe_bl)) pss_nil)
    (pss_cons (ps_for PassesOwn.never rfl (pi_zip3 (by rfl) (fr "zip" (by decide)) (pa_cons (pv 3) (pa_cons (pv 10) (pa_cons (pv 11) pa_nil)))) (pg_tup rfl (pgs_cons (pg_name (i := 8) nd rfl (Or.inl rfl)) (pgs_cons (pg_name (i := 13) nd rfl (Or.inl rfl)) (pgs_cons (pg_name (i := 14) nd rfl (Or.inl rfl)) pgs_nil)))) (pss_cons (ps_set (i := 15) nd rfl (Or.inl rfl) (pe_callTy call_tuple_of (by rfl) (fr "tuple" (by decide)) (by decide +kernel) (pa_cons (pe_lc (own := [("_law_holder", 17)]) (g := (gName 17)) (tt := (tTest (tOp (rNeA K) (tVar 17) (tVar 2)))) rfl nd (pi_any (pv 13)) (blkOk_by (N := N_law_fails) (sc := (defScope s_law_fails)) (by decide +kernel)) (fun _ _ _ _ _ => (pg_name (i := 17) nd rfl (Or.inl rfl))) (fun _ _ _ _ _ => (pts_one (pt_cmpR (op_neA hr.units) (pv 17) (pv 2) (nomark _)))) (fun _ _ _ _ _ => (pv 17))) pa_nil)))
    (pss_cons (ps_set (i := 16) nd rfl (Or.inl rfl) (pe_ifExp (pt_cmpR op_in_seq (pv 2) (pv 13) (by rfl)) (pe_op op_addA (pv 15) (pe_tup (pa_cons (pv 14) pa_nil))) (pv 13)))
    (pss_one (ps_if (PW.pt (pw_or (pt_cmpR (op_neA hr.units) (C8.pe_mt c_Cluster_owners hr (by decide) (pv 0) (pa_cons (pv 8) pa_nil)) (pv 16) (nomark _)) (pw_or1 (pt_cmpR (op_neA hr.units) (pe_cmpR op_isN (pv 14) pe_non (nomark _)) (pe_cmpR op_notIn_seq (pv 2) (pv 13) (by rfl)) (nomark _))))) (pss_one (ps_ret pe_bl)) pss_nil)))))
    (pss_one (ps_ret pe_bl))))))))
/-! Cluster.recover -/
abbrev s_Cluster_recover : Stmt := (C8.clsBody (topS 39)).getD 11 (.Pass ⟨0, 0, 0, 0⟩)
abbrev N_Cluster_recover : List Str := ["self", "server", "many"]
theorem sc_Cluster_recover : FnScope N_Cluster_recover ["self", "server"] (defScope s_Cluster_recover) := ⟨rfl, rfl, rfl, by decide +kernel, rfl, by decide +kernel, by decide +kernel⟩
def t_Cluster_recover (w : World) (K : PySem.W.Frag) (Sok : List V → Prop) (pre_is_integer_cluster : Pre) (pre_Cluster_load : Pre) : TS :=
  (tSeq (tIfS (tOr (tNot (tB (tCall (spD K Sok 3 pre_is_integer_cluster) [] E0 (tCons (tVar 1) (tCons (tC (.int 0)) (tCons (tOp rSubI (tFldC (cC_Cluster K) (tVar 0) "n") (tC (.int 1))) tNil)))))) (tB (tDNotIn (tVar 1) (tFldC (cC_Cluster K) (tVar 0) "dead")))) tNever tNext)
  (tSeq (tDrop (tDPop1 (tFldC (cC_Cluster K) (tVar 0) "dead") (tVar 1)))
  (tSeq (tAsg (tMeth (cC_Cluster K) "load" (spD K Sok 2 pre_Cluster_load) [] E0 (tVar 0) (tCons (tVar 1) tNil)) (gName 2))
  (tSeq (tDrop (tBM K "list" rAppend (tFldC (cC_Cluster K) (tVar 0) "done") (tCons (tTup (tCons (tVar 1) (tCons (tVar 2) tNil))) tNil)))
  (tRet (tVar 2))))))
theorem der_Cluster_recover {P : Program} {w : World} {K : PySem.W.Frag} {mg : Str → Option Value} {base : Heap} {Sok : List V → Prop} {pre_is_integer_cluster : Pre} {pre_Cluster_load : Pre} (fr : Free mg) (cf_Cluster : CF_Cluster K) (c_is_integer_cluster : C8.Cal P w K mg base 1 "is_integer_cluster" (spD K Sok 3 pre_is_integer_cluster) []) (c_Cluster_load : C8.Met P w K mg base 3 (cC_Cluster K) "load" (spD K Sok 2 pre_Cluster_load) []) {f : Addr} {cdv : Value} {A : Around} {outer : List Env} {s : Shared} {H : Hp} {E : XK} (hr : Room 3 (A.deeper (envOfC "Cluster.recover" (defScope s_Cluster_recover) s.heap.objs.size f cdv))) :
    PSs (cxOf CX0 P w K mg base N_Cluster_recover "Cluster.recover" (defScope s_Cluster_recover) f cdv A outer s H E).nox (defBody s_Cluster_recover) (t_Cluster_recover w K Sok pre_is_integer_cluster pre_Cluster_load) := by
  have nd : (N_Cluster_recover).Nodup := sc_Cluster_recover.nd
  exact (pss_cons (ps_if (PW.pt (pw_or (pt_not (pt_val (C8.pe_c c_is_integer_cluster hr (by decide) (by rfl) (pa_cons (pv 1) (pa_cons pe_int (pa_cons (pe_op op_sub (pe_fldC cf_Cluster.1 (cf_Cluster.2 "n" (by decide)) (pv 0) (by rfl)) pe_int) pa_nil)))))) (pw_or1 (pt_cmp (pc_dnotin (Nat.lt_of_le_of_lt (Nat.add_le_add_left (by decide) _) hr.units) (pv 1) (pe_fldC cf_Cluster.1 (cf_Cluster.2 "dead" (by decide)) (pv 0) (by rfl))))))) (pss_one ps_never) pss_nil)
    (pss_cons (ps_expr (pe_dpop1 (pe_fldC cf_Cluster.1 (cf_Cluster.2 "dead" (by decide)) (pv 0) (by rfl)) (pv 1) ⟨by rfl, by rfl, by rfl, by rfl⟩))
    (pss_cons (ps_set (i := 2) nd rfl (Or.inl rfl) (C8.pe_mt c_Cluster_load hr (by decide) (pv 0) (pa_cons (pv 1) pa_nil)))
    (pss_cons (ps_expr (pe_bm PySem.F.plainAttrs_list PySem.F.slot_list_append PySem.F.type_list_append mt_append (pe_fldC cf_Cluster.1 (cf_Cluster.2 "done" (by decide)) (pv 0) (by rfl)) (pa_cons (pe_tup (pa_cons (pv 1) (pa_cons (pv 2) pa_nil))) pa_nil)))
    (pss_one (ps_ret (pv 2)))))))
/-! law -/
abbrev s_law : Stmt := topS 49
abbrev N_law : List Str := ["_law_script", "_law_k", "_law_stream_here", "_law_n", "_law_down", "_law_copies_of", "_law_total", "_law_sizes", "_law_cluster", "_law_gone", "_law_some", "_law_held", "_law_server", "_law_number"]
theorem sc_law : FnScope N_law ["_law_script"] (defScope s_law) := ⟨rfl, rfl, rfl, by decide +kernel, rfl, by decide +kernel, by decide +kernel⟩
def t_law (w : World) (K : PySem.W.Frag) (Sok : List V → Prop) (pre_law_stream : Pre) (pre_law_draw : Pre) (pre_law_least : Pre) (pre_Cluster_init : PreX) (pre_law_shuffled : Pre) (pre_law_shards : Pre) (pre_Cluster_owners : Pre) (pre_law_fails : Pre) (pre_Cluster_recover : Pre) (pre_Cluster_load : Pre) (pre_Cluster_live : Pre) : TS :=
  (tSeq (tFor (iRng1 (tCons (tCB (rMax2) (tCons (tC (.int 1)) (tCons (tCB (rMin2) (tCons (tC (.int 2)) (tCons (tCB (rLenB K) (tCons (tVar 0) tNil)) tNil))) tNil))) tNil)) (gName 1) (tSeq (tAsg (tCall (spN K Sok 2 pre_law_stream) [] E0 (tCons (tVar 0) (tCons (tVar 1) tNil))) (gName 2))
  (tSeq (tAsg (tOp (rAddA K) (tC (.int 20)) (tCall (spD K Sok 2 pre_law_draw) [] E0 (tCons (tVar 2) (tCons (tC (.int 41)) tNil)))) (gName 3))
  (tSeq (tPar 4 5 (tCons (tOp (rAddA K) (tC (.int 1)) (tCall (spD K Sok 2 pre_law_draw) [] E0 (tCons (tVar 2) (tCons (tC (.int 5)) tNil)))) (tCons (tOp (rAddA K) (tC (.int 1)) (tCall (spD K Sok 2 pre_law_draw) [] E0 (tCons (tVar 2) (tCons (tC (.int 5)) tNil)))) tNil)))
  (tSeq (tAsg (tOp (rMulA K) (tCall (spD K Sok 2 pre_law_least) [] E0 (tCons (tVar 3) (tCons (tCB (rMin2) (tCons (tVar 3) (tCons (tOp (rAddA K) (tVar 4) (tVar 5)) tNil))) tNil))) (tOp (rAddA K) (tC (.int 1)) (tCall (spD K Sok 2 pre_law_draw) [] E0 (tCons (tVar 2) (tCons (tOp rPowW (tC (.int 10)) (tC (.int 9))) tNil))))) (gName 6))
  (tSeq (tAsg (tTup (tCons (tTup (tCons (tVar 3) (tCons (tVar 4) (tCons (tVar 5) (tCons (tVar 6) tNil))))) (tCons (tMake (cC_Cluster K) (spX K Sok 5 pre_Cluster_init) [] E0 (tCons (tVar 3) (tCons (tVar 4) (tCons (tVar 5) (tCons (tVar 6) tNil))))) tNil))) (gTup K 2 (gCons (gName 7) (gCons (gName 8) gNil))))
  (tSeq (tAsg (tSl (rSlA' K) (tCall (spN K Sok 2 pre_law_shuffled) [] E0 (tCons (tVar 2) (tCons (tLstRg (tRg1 (tVar 3))) tNil))) tNoPart (tPart (tVar 4))) (gName 9))
  (tSeq (tAsg (tCall (spD K Sok 3 pre_law_shards) [] E0 (tCons (tVar 2) (tCons (tVar 7) (tCons (tOp (rIx K) (tVar 9) (tC (.int 0))) tNil)))) (gName 10))
  (tSeq (tAsg (tLc (iAny K (tVar 10)) (gName 13) tYes (tMeth (cC_Cluster K) "owners" (spD K Sok 2 pre_Cluster_owners) [] E0 (tVar 8) (tCons (tVar 13) tNil)) [13]) (gName 11))
  (tSeq (tFor (iAny K (tVar 9)) (gName 12) (tIfS (tNot (tB (tCall (spD K Sok 4 pre_law_fails) [] E0 (tCons (tVar 8) (tCons (tVar 7) (tCons (tVar 12) (tCons (tOp (rAddA K) (tVar 10) (tSl (rSlA' K) (tCall (spD K Sok 3 pre_law_shards) [] E0 (tCons (tVar 2) (tCons (tVar 7) (tCons (tVar 12) tNil)))) tNoPart (tPart (tC (.int 3))))) tNil))))))) (tRet (tC (.bl false))) tNext))
  (tSeq (tFor (iAny K (tCall (spN K Sok 2 pre_law_shuffled) [] E0 (tCons (tVar 2) (tCons (tVar 9) tNil)))) (gName 12) (tIfS (tTest (tOp (rNeA K) (tMeth (cC_Cluster K) "recover" (spD K Sok 2 pre_Cluster_recover) [] E0 (tVar 8) (tCons (tVar 12) tNil)) (tMeth (cC_Cluster K) "load" (spD K Sok 2 pre_Cluster_load) [] E0 (tVar 8) (tCons (tVar 12) tNil)))) (tRet (tC (.bl false))) tNext))
  (tIfS (tOr (tTest (tOp (rNeA K) (tLc (iAny K (tVar 10)) (gName 13) tYes (tMeth (cC_Cluster K) "owners" (spD K Sok 2 pre_Cluster_owners) [] E0 (tVar 8) (tCons (tVar 13) tNil)) [13]) (tVar 11))) (tTest (tOp (rNeA K) (tMeth (cC_Cluster K) "live" (spD K Sok 1 pre_Cluster_live) [] E0 (tVar 8) tNil) (tTupRg (tRg1 (tVar 3)))))) (tRet (tC (.bl false))) tNext))))))))))))
  (tRet (tC (.bl true))))
theorem der_law {P : Program} {w : World} {K : PySem.W.Frag} {mg : Str → Option Value} {base : Heap} {Sok : List V → Prop} {pre_law_stream : Pre} {pre_law_draw : Pre} {pre_law_least : Pre} {pre_Cluster_init : PreX} {pre_law_shuffled : Pre} {pre_law_shards : Pre} {pre_Cluster_owners : Pre} {pre_law_fails : Pre} {pre_Cluster_recover : Pre} {pre_Cluster_load : Pre} {pre_Cluster_live : Pre} (fr : Free mg) (cf_Cluster : CF_Cluster K) (c_law_stream : C8.Cal P w K mg base 1 "_law_stream" (spN K Sok 2 pre_law_stream) []) (c_law_draw : C8.Cal P w K mg base 1 "_law_draw" (spD K Sok 2 pre_law_draw) []) (c_law_least : C8.Cal P w K mg base 2 "_law_least" (spD K Sok 2 pre_law_least) []) (c_Cluster_init : C8.Mak P w K mg base 5 "Cluster" (cC_Cluster K) (spX K Sok 5 pre_Cluster_init) []) (c_law_shuffled : C8.Cal P w K mg base 2 "_law_shuffled" (spN K Sok 2 pre_law_shuffled) []) (c_law_shards : C8.Cal P w K mg base 7 "_law_shards" (spD K Sok 3 pre_law_shards) []) (c_Cluster_owners : C8.Met P w K mg base 9 (cC_Cluster K) "owners" (spD K Sok 2 pre_Cluster_owners) []) (c_law_fails : C8.Cal P w K mg base 10 "_law_fails" (spD K Sok 4 pre_law_fails) []) (c_Cluster_recover : C8.Met P w K mg base 4 (cC_Cluster K) "recover" (spD K Sok 2 pre_Cluster_recover) []) (c_Cluster_load : C8.Met P w K mg base 3 (cC_Cluster K) "load" (spD K Sok 2 pre_Cluster_load) []) (c_Cluster_live : C8.Met P w K mg base 1 (cC_Cluster K) "live" (spD K Sok 1 pre_Cluster_live) []) {f : Addr} {cdv : Value} {A : Around} {outer : List Env} {s : Shared} {H : Hp} {E : XK} (hr : Room 10 (A.deeper (envOfC "law" (defScope s_law) s.heap.objs.size f cdv))) :
    PSs (cxOf CX0 P w K mg base N_law "law" (defScope s_law) f cdv A outer s H E).nox (defBody s_law) (t_law w K Sok pre_law_stream pre_law_draw pre_law_least pre_Cluster_init pre_law_shuffled pre_law_shards pre_Cluster_owners pre_law_fails pre_Cluster_recover pre_Cluster_load pre_Cluster_live) := by
  have nd : (N_law).Nodup := sc_law.nd
  exact (pss_cons (ps_for PassesOwn.never rfl (pi_range1 (by rfl) (fr "range" (by decide)) (pa_cons (pe_callB (call_max2 rfl) (by rfl) (fr "max" (by decide)) (by decide +kernel) (pa_cons pe_int (pa_cons (pe_callB (call_min2 rfl) (by rfl) (fr "min" (by decide)) (by decide +kernel) (pa_cons pe_int (pa_cons (pe_callB call_len (by rfl) (fr "len" (by decide)) (by decide +kernel) (pa_cons (pv 0) pa_nil)) pa_nil))) pa_nil))) pa_nil)) (pg_name (i := 1) nd rfl (Or.inl rfl)) (pss_cons (ps_set (i := 2) nd rfl (Or.inl rfl) (C8.pe_c c_law_stream hr (by decide) (by rfl) (pa_cons (pv 0) (pa_cons (pv 1) pa_nil))))
    (pss_cons (ps_set (i := 3) nd rfl (Or.inl rfl) (pe_op op_addA pe_int (C8.pe_c c_law_draw hr (by decide) (by rfl) (pa_cons (pv 2) (pa_cons pe_int pa_nil)))))
    (pss_cons (ps_par (i := 4) (j := 5) rfl nd rfl rfl (by decide) rfl rfl (pa_cons (pe_op op_addA pe_int (C8.pe_c c_law_draw hr (by decide) (by rfl) (pa_cons (pv 2) (pa_cons pe_int pa_nil)))) (pa_cons (pe_op op_addA pe_int (C8.pe_c c_law_draw hr (by decide) (by rfl) (pa_cons (pv 2) (pa_cons pe_int pa_nil)))) pa_nil)) (by rfl))
    (pss_cons (ps_set (i := 6) nd rfl (Or.inl rfl) (pe_op op_mulA (C8.pe_c c_law_least hr (by decide) (by rfl) (pa_cons (pv 3) (pa_cons (pe_callB (call_min2 rfl) (by rfl) (fr "min" (by decide)) (by decide +kernel) (pa_cons (pv 3) (pa_cons (pe_op op_addA (pv 4) (pv 5)) pa_nil))) pa_nil))) (pe_op op_addA pe_int (C8.pe_c c_law_draw hr (by decide) (by rfl) (pa_cons (pv 2) (pa_cons (pe_op op_powW pe_int pe_int) pa_nil))))))
    (pss_cons (ps_asg (pe_tup (pa_cons (pe_tup (pa_cons (pv 3) (pa_cons (pv 4) (pa_cons (pv 5) (pa_cons (pv 6) pa_nil))))) (pa_cons (C8.pe_mk c_Cluster_init hr (by decide) (by rfl) (pa_cons (pv 3) (pa_cons (pv 4) (pa_cons (pv 5) (pa_cons (pv 6) pa_nil))))) pa_nil))) (pg_tup rfl (pgs_cons (pg_name (i := 7) nd rfl (Or.inl rfl)) (pgs_cons (pg_name (i := 8) nd rfl (Or.inr rfl)) pgs_nil))))
    (pss_cons (ps_set (i := 9) nd rfl (Or.inl rfl) (pe_slice sl_any (C8.pe_c c_law_shuffled hr (by decide) (by rfl) (pa_cons (pv 2) (pa_cons (pe_listRg rfl (by rfl) (fr "list" (by decide)) (prg_1 (by rfl) (fr "range" (by decide)) (pv 3))) pa_nil))) po_none (po_some (pv 4))))
    (pss_cons (ps_set (i := 10) nd rfl (Or.inl rfl) (C8.pe_c c_law_shards hr (by decide) (by rfl) (pa_cons (pv 2) (pa_cons (pv 7) (pa_cons (pe_ix ix_seq (pv 9) pe_int (fun _ _ => rfl)) pa_nil)))))
    (pss_cons (ps_setLc (i := 11) (own := [("_law_number", 13)]) (g := (gName 13)) (tt := tYes) rfl nd rfl rfl (sw_true rfl rfl rfl (by decide +kernel)) (pi_any (pv 10)) (blkOk_by (N := N_law) (sc := (defScope s_law)) (by decide +kernel)) (fun _ _ _ _ _ => (pg_name (i := 13) nd rfl (Or.inl rfl))) (fun _ _ _ _ _ => pts_nil) (fun _ _ _ _ _ => (C8.pe_mt c_Cluster_owners hr (by decide) (pv 8) (pa_cons (pv 13) pa_nil))))
    (pss_cons (ps_for PassesOwn.never rfl (pi_any (pv 9)) (pg_name (i := 12) nd rfl (Or.inl rfl)) (pss_one (ps_if (pt_not (pt_val (C8.pe_c c_law_fails hr (by decide) (by rfl) (pa_cons (pv 8) (pa_cons (pv 7) (pa_cons (pv 12) (pa_cons (pe_op op_addA (pv 10) (pe_slice sl_any (C8.pe_c c_law_shards hr (by decide) (by rfl) (pa_cons (pv 2) (pa_cons (pv 7) (pa_cons (pv 12) pa_nil)))) po_none (po_some pe_int))) pa_nil))))))) (pss_one (ps_ret pe_bl)) pss_nil)))
    (pss_cons (ps_for PassesOwn.never rfl (pi_any (C8.pe_c c_law_shuffled hr (by decide) (by rfl) (pa_cons (pv 2) (pa_cons (pv 9) pa_nil)))) (pg_name (i := 12) nd rfl (Or.inl rfl)) (pss_one (ps_if (pt_cmpR (op_neA hr.units) (C8.pe_mt c_Cluster_recover hr (by decide) (pv 8) (pa_cons (pv 12) pa_nil)) (C8.pe_mt c_Cluster_load hr (by decide) (pv 8) (pa_cons (pv 12) pa_nil)) (nomark _)) (pss_one (ps_ret pe_bl)) pss_nil)))
    (pss_one (ps_if (PW.pt (pw_or (pt_cmpR (op_neA hr.units) (pe_lc (own := [("_law_number", 13)]) (g := (gName 13)) (tt := tYes) rfl nd (pi_any (pv 10)) (blkOk_by (N := N_law) (sc := (defScope s_law)) (by decide +kernel)) (fun _ _ _ _ _ => (pg_name (i := 13) nd rfl (Or.inl rfl))) (fun _ _ _ _ _ => pts_nil) (fun _ _ _ _ _ => (C8.pe_mt c_Cluster_owners hr (by decide) (pv 8) (pa_cons (pv 13) pa_nil)))) (pv 11) (nomark _)) (pw_or1 (pt_cmpR (op_neA hr.units) (C8.pe_mt0 c_Cluster_live hr (by decide) (pv 8)) (pe_tupRg rfl (by rfl) (fr "tuple" (by decide)) (prg_1 (by rfl) (fr "range" (by decide)) (pv 3))) (nomark _))))) (pss_one (ps_ret pe_bl)) pss_nil)))))))))))))
    (pss_one (ps_ret pe_bl)))
end Tx

set_option Elab.async false
set_option linter.all false
set_option maxRecDepth 100000
set_option maxHeartbeats 2000000
set_option exponentiation.threshold 9000
namespace Tx
open PySem PySem.Spec PyProof.Rows L2 DL EM
/-! ### tactics -/
local macro_rules | `(tactic| walk_at "ev1") => `(tactic| first
  | with_reducible refine sv_seq ?_
  | with_reducible refine sv_ret ?_
  | with_reducible refine sv_retN ?_
  | with_reducible refine sv_asgSub ?_
  | with_reducible refine sv_asg ?_
  | with_reducible refine sv_drop ?_
  | with_reducible refine sv_if ?_
  | with_reducible refine sv_next ?_
  | with_reducible refine gv_name ?_
  | with_reducible refine ev_int ?_
  | with_reducible refine ev_bl ?_
  | with_reducible refine ev_str ?_
  | with_reducible refine ev_non ?_
  | with_reducible refine ev_ty ?_
  | with_reducible refine ev_op ?_
  | with_reducible refine ev_un ?_
  | with_reducible refine ev_if ?_
  | with_reducible refine ev_andV ?_
  | with_reducible refine ev_orV ?_
  | with_reducible refine ev_notV ?_
  | with_reducible refine ev_chain ?_
  | with_reducible refine ev_ofL (el_sortedSet ?_)
  | with_reducible refine ev_big ?_
  | with_reducible refine ev_cb ?_
  | with_reducible refine ev_fld ?_
  | with_reducible refine ev_tup ?_
  | with_reducible refine ev_sl ?_
  | with_reducible refine et_test ?_
  | with_reducible refine et_B ?_
  | with_reducible refine et_and ?_
  | with_reducible refine et_or ?_
  | with_reducible refine et_not ?_
  | with_reducible refine et_yes ?_
  | with_reducible refine ea_nil ?_
  | with_reducible refine ea_cons ?_
  | with_reducible refine eo_none ?_
  | with_reducible refine eo_some ?_
  | refine ev_var rfl ?_
  | with_reducible refine od_add ?_
  | with_reducible refine od_sub ?_
  | with_reducible refine od_lt ?_
  | with_reducible refine od_le ?_
  | with_reducible refine od_gt ?_
  | with_reducible refine od_ge ?_
  | with_reducible refine od_eqI ?_
  | with_reducible refine od_neI ?_
  | with_reducible refine cd_lenT ?_
  | with_reducible refine cd_lenL ?_
  | with_reducible refine cd_abs ?_
  | with_reducible refine cd_max2 ?_
  | with_reducible refine cd_min2 ?_
  | with_reducible refine cd_intB ?_
  | with_reducible refine cd_tupL ?_
  | with_reducible refine iteT ?_
  | with_reducible refine iteF ?_)
local macro_rules | `(tactic| walk_at "ev") => `(tactic| repeat (first | walk_at "ev1" | (dsimp only [List.set, List.nil_append])))
theorem rng_get {lo : Int} {n i : Nat} {d : D} (h : (rng lo n)[i]? = some d) : i < n ∧ d = .int (lo + (i : Nat)) := by
  unfold rng at h
  rw [List.getElem?_map] at h
  by_cases c : i < n
  · rw [List.getElem?_range c] at h
    exact ⟨c, (Option.some.inj h).symm⟩
  · rw [List.getElem?_eq_none (by rw [List.length_range]; omega)] at h
    cases h
theorem rng_len {lo : Int} {n : Nat} : (rng lo n).length = n := by unfold rng; rw [List.length_map, List.length_range]
section
variable {w : World} {K : PySem.W.Frag} {Sok : List V → Prop}
abbrev Pure (Sok : List V → Prop) (K : PySem.W.Frag) (n : Nat) (N : List Str) (t : TS) (pre : Pre) : Prop :=
  ∀ (S : Addr → Prop) (ds : List D) (mc : M) (P : PD) (H : Hp) (U : Addr → Prop), ds.length = n → pre S ds mc P → Sv (wd K Sok S mc H U) t mc (startD N ds) { nx := fun m' _ => Rt mc P .none m', rt := Rt mc P }
/-! binomial -/
def pre_binomial : Pre := fun S ds mc P => ∃ n k : Nat, ds = [.int n, .int k] ∧ mc = [] ∧ n ≤ 60 ∧ P (.int (ch n k : Nat)) []
theorem pure_binomial : Pure Sok K 2 N_binomial (t_binomial w K Sok) pre_binomial := by
  rintro S _ _ P H U _ ⟨n, k, rfl, rfl, hn, q⟩
  unfold t_binomial
  show Sv _ _ [] [some (.int n), some (.int k), none, none] _
  walk_at "ev"
  refine ⟨_, rfl, ite_dec (fun h => ?_) (fun h => ?_)⟩
  · walk_at "ev"
    refine rt_nil ?_
    rw [ch_gt (by omega)] at q
    exact q
  · walk_at "ev"
    refine sv_for (ei_r1 ?_)
    walk_at "ev"
    refine ⟨_, rfl, by omega, by omega, fun i m' ρ' => m' = [] ∧ ∃ x3, ρ' = [some (.int n), some (.int k), some (.int (ch n i : Nat)), x3], ⟨rfl, none, by rw [ch_zero]; rfl⟩, ?_, ?_⟩
    · rintro i d m' ρ' hd ⟨rfl, x3, rfl⟩
      obtain ⟨hi, rfl⟩ := rng_get hd
      have hin : i < n := by omega
      have b1 : ch n i < 2 ^ 61 := Nat.lt_of_le_of_lt (ch_le n i) (Nat.lt_of_le_of_lt (Nat.pow_le_pow_right (by decide) hn) (by decide))
      walk_at "ev"
      refine od_mul (wide_mul (a := 61) (b := 10) (by omega) (by omega) (by omega) (by omega) (by omega)) ?_
      walk_at "ev"
      refine od_fdiv (wide_div (b := 10) (by omega) (by omega) (by omega) (by omega)) ?_
      walk_at "ev"
      refine Wk.of ⟨rfl, some (.int (0 + (i : Int))), ?_⟩
      have e : ((ch n i : Nat) : Int) * (↑n - (0 + ↑i)) / (0 + ↑i + 1) = ((ch n (i + 1) : Nat) : Int) := by
        rw [← ch_step hin]
        have e1 : (n : Int) - (0 + (i : Int)) = ((n - i : Nat) : Int) := by omega
        have e2 : 0 + (i : Int) + 1 = ((i + 1 : Nat) : Int) := by omega
        rw [e1, e2, ← Int.natCast_mul, ← Int.natCast_ediv]
      rw [e]
    · rintro m' ρ' ⟨rfl, x3, rfl⟩
      rw [rng_len]
      walk_at "ev"
      refine rt_nil ?_
      have e : ch n (min (k : Int) (↑n - ↑k)).toNat = ch n k := by
        rcases Nat.le_total k (n - k) with c | c
        · rw [show (min (k : Int) (↑n - ↑k)).toNat = k by omega]
        · rw [show (min (k : Int) (↑n - ↑k)).toNat = n - k by omega, ch_sym (by omega)]
      rw [e]
      exact q
/-! edge_divisor -/
def pre_edge_divisor : Pre := fun S ds mc P => ∃ n b : Nat, ds = [.int n, .int b] ∧ mc = [] ∧ 1 ≤ n ∧ n ≤ 60 ∧ P (.int (ed n b : Nat)) []
theorem pure_edge_divisor : Pure Sok K 2 N_edge_divisor (t_edge_divisor w K Sok pre_binomial) pre_edge_divisor := by
  rintro S _ _ P H U _ ⟨n, b, rfl, rfl, h1, hn, q⟩
  unfold t_edge_divisor
  show Sv _ _ [] [some (.int n), some (.int b)] _
  walk_at "ev"
  refine ev_call ?_
  walk_at "ev"
  refine ⟨rfl, n - 1, b, by rw [show ((n - 1 : Nat) : Int) = (n : Int) - 1 by omega], rfl, by omega, ?_⟩
  have b1 : ch (n - 1) b < 2 ^ 61 := Nat.lt_of_le_of_lt (ch_le (n - 1) b) (Nat.lt_of_le_of_lt (Nat.pow_le_pow_right (n := 2) (by decide) (show n - 1 ≤ 60 by omega)) (by decide))
  refine od_mul (wide_mul (a := 10) (b := 61) (by omega) (by omega) (by omega) (by omega) (by omega)) ?_
  refine rt_nil ?_
  rw [← Int.natCast_mul]
  exact q
/-! common_divisor -/
def pre_common_divisor : Pre := fun S ds mc P => ∃ a b : Nat, ds = [.int a, .int b] ∧ mc = [] ∧ P (.int (Nat.gcd a b : Nat)) []
theorem pure_common_divisor : Pure Sok K 2 N_common_divisor (t_common_divisor w K Sok) pre_common_divisor := by
  rintro S _ _ P H U _ ⟨a, b, rfl, rfl, q⟩
  unfold t_common_divisor
  show Sv _ _ [] [some (.int a), some (.int b)] _
  walk_at "ev"
  refine sv_while (fun n m' ρ' => m' = [] ∧ ∃ x y : Nat, ρ' = [some (.int x), some (.int y)] ∧ n = y ∧ Nat.gcd x y = Nat.gcd a b) b ⟨rfl, a, b, rfl, rfl, rfl⟩ ?_
  rintro n m' ρ' ⟨rfl, x, y, rfl, rfl, e⟩
  walk_at "ev"
  refine ⟨_, rfl, ite_dec (fun h => ?_) (fun h => ?_)⟩
  · refine sv_par ?_
    walk_at "ev"
    refine od_mod (by omega) ?_
    walk_at "ev"
    refine ⟨_, _, rfl, Wk.of ⟨x % n, Nat.mod_lt _ (by omega), rfl, n, x % n, rfl, rfl, ?_⟩⟩
    rw [Nat.gcd_comm n (x % n), ← Nat.gcd_rec, Nat.gcd_comm]
    exact e
  · walk_at "ev"
    refine rt_nil ?_
    have : n = 0 := by omega
    subst this
    rw [Nat.gcd_zero_right] at e
    rw [e]
    exact q
/-! common_multiple: of the level divisors below a depth -/
def pre_common_multiple : Pre := fun S ds mc P => ∃ n d : Nat, ds = [.list ((List.range d).map fun b => .int (ed n b : Nat))] ∧ mc = [] ∧ n ≤ 60 ∧ d ≤ n ∧ P (.int (LL n d : Nat)) []
theorem pure_common_multiple : Pure Sok K 1 N_common_multiple (t_common_multiple w K Sok pre_common_divisor) pre_common_multiple := by
  rintro S _ _ P H U _ ⟨n, d, rfl, rfl, hn, hd, q⟩
  unfold t_common_multiple
  show Sv _ _ [] [some (.list _), none, none] _
  walk_at "ev"
  refine sv_for (ei_L ?_)
  walk_at "ev"
  refine ⟨_, rfl, fun i m' ρ' => m' = [] ∧ ∃ x3, ρ' = [some (.list ((List.range d).map fun b => .int (ed n b : Nat))), some (.int (LL n i : Nat)), x3], ⟨rfl, none, rfl⟩, ?_, ?_⟩
  · rintro i x m' ρ' hx ⟨rfl, x3, rfl⟩
    obtain ⟨hi, rfl⟩ : i < d ∧ x = .int (ed n i : Nat) := by
      rw [List.getElem?_map] at hx
      by_cases c : i < d
      · rw [List.getElem?_range c] at hx
        exact ⟨c, (Option.some.inj hx).symm⟩
      · rw [List.getElem?_eq_none (by rw [List.length_range]; omega)] at hx
        cases hx
    have b1 : LL n i < 2 ^ 4000 := Nat.lt_of_lt_of_le (LL_lt hn i) (Nat.pow_le_pow_right (by decide) (by omega))
    have b2 : ed n i < 2 ^ 66 := ed_lt hn
    have p1 : 0 < LL n i := LL_pos (by omega)
    have p2 : 0 < ed n i := ed_pos (by omega)
    have g1 : 0 < Nat.gcd (LL n i) (ed n i) := Nat.gcd_pos_of_pos_left _ p1
    have g2 : Nat.gcd (LL n i) (ed n i) ≤ ed n i := Nat.le_of_dvd p2 (Nat.gcd_dvd_right _ _)
    walk_at "ev"
    refine ev_call ?_
    walk_at "ev"
    refine ⟨rfl, _, _, rfl, rfl, ?_⟩
    refine od_fdiv (wide_div (b := 66) (by omega) (by omega) (by omega) (by omega)) ?_
    walk_at "ev"
    have b3 : LL n i / Nat.gcd (LL n i) (ed n i) < 2 ^ 4000 := Nat.lt_of_le_of_lt (Nat.div_le_self _ _) b1
    rw [← Int.natCast_ediv]
    refine od_mul (wide_mul (a := 4000) (b := 66) (by rw [Int.natAbs_natCast]; exact b3) (by rw [Int.natAbs_natCast]; exact b2) (by decide) (by decide) (by decide)) ?_
    walk_at "ev"
    refine Wk.of ⟨rfl, some (.int (ed n i : Nat)), ?_⟩
    have e : ((LL n i / Nat.gcd (LL n i) (ed n i) : Nat) : Int) * (ed n i : Nat) = ((LL n (i + 1) : Nat) : Int) := by
      rw [← Int.natCast_mul]
      show ((_ : Nat) : Int) = ((Nat.lcm (LL n i) (ed n i) : Nat) : Int)
      rw [Nat.lcm, Nat.div_mul_right_comm (Nat.gcd_dvd_left _ _)]
    rw [e]
  · rintro m' ρ' ⟨rfl, x3, rfl⟩
    rw [List.length_map, List.length_range]
    walk_at "ev"
    exact rt_nil q
/-! least_lists -/
def pre_least_lists : Pre := fun S ds mc P => ∃ n d : Nat, ds = [.int n, .int d] ∧ mc = [] ∧ 1 ≤ n ∧ n ≤ 60 ∧ d ≤ n ∧ P (.int (LL n d : Nat)) []
theorem pure_least_lists : Pure Sok K 2 N_least_lists (t_least_lists w K Sok pre_edge_divisor pre_common_multiple) pre_least_lists := by
  rintro S _ _ P H U _ ⟨n, d, rfl, rfl, h1, hn, hd, q⟩
  unfold t_least_lists
  show Sv _ _ [] [some (.int n), some (.int d), none] _
  walk_at "ev"
  refine ev_call ?_
  walk_at "ev"
  refine ev_ofL (el_lc (own_name (by simp)) mono_name (ei_r1 ?_))
  walk_at "ev"
  refine ⟨_, rfl, by omega, by omega, by rw [rng_len, sizeLine_eq]; omega, fun i acc m' => m' = [] ∧ acc = (List.range i).map fun b => .int (ed n b : Nat), ⟨rfl, rfl⟩, ?_, ?_⟩
  · rintro i x acc m' hx ⟨rfl, rfl⟩
    obtain ⟨hi, rfl⟩ := rng_get hx
    refine gv_name (et_yes (iteT ?_))
    refine ev_call ?_
    dsimp only [wipeD, List.set]
    walk_at "ev"
    refine ⟨rfl, n, i, by rw [Int.zero_add], rfl, h1, hn, rfl, ?_⟩
    rw [List.range_succ, List.map_append]
    rfl
  · rintro acc m' ⟨rfl, rfl⟩
    rw [rng_len]
    walk_at "ev"
    refine ⟨rfl, n, d, ?_, rfl, hn, hd, rt_nil q⟩
    rw [show ((d : Int)).toNat = d by omega]
/-! is_integer -/
def pre_is_integer_numbers : Pre := fun S ds mc P => ∃ i : Int, ds = [.int i] ∧ mc = [] ∧ P (.bool true) []
theorem pure_is_integer_numbers : Pure Sok K 1 N_is_integer_numbers (t_is_integer_numbers w K Sok) pre_is_integer_numbers := by
  rintro S _ _ P H U _ ⟨i, rfl, rfl, q⟩
  unfold t_is_integer_numbers
  show Sv _ _ [] [some (.int i)] _
  walk_at "ev"
  refine cd_isi (n := "int") (b := true) rfl (by decide +kernel) ?_
  refine ⟨_, rfl, iteT ?_⟩
  walk_at "ev"
  refine cd_isi (n := "int") (b := false) rfl (by decide +kernel) ?_
  exact ⟨_, rfl, rt_nil q⟩
end

section
variable {w : World} {K : PySem.W.Frag} {Sok : List V → Prop}
/-! common_divisor -/
def pre_law_gcd : Pre := fun S ds mc P => ∃ a b : Nat, ds = [.int a, .int b] ∧ mc = [] ∧ P (.int (Nat.gcd a b : Nat)) []
theorem pure_law_gcd : Pure Sok K 2 N_law_gcd (t_law_gcd w K Sok) pre_law_gcd := by
  rintro S _ _ P H U _ ⟨a, b, rfl, rfl, q⟩
  unfold t_law_gcd
  show Sv _ _ [] [some (.int a), some (.int b)] _
  walk_at "ev"
  refine sv_while (fun n m' ρ' => m' = [] ∧ ∃ x y : Nat, ρ' = [some (.int x), some (.int y)] ∧ n = y ∧ Nat.gcd x y = Nat.gcd a b) b ⟨rfl, a, b, rfl, rfl, rfl⟩ ?_
  rintro n m' ρ' ⟨rfl, x, y, rfl, rfl, e⟩
  walk_at "ev"
  refine ⟨_, rfl, ite_dec (fun h => ?_) (fun h => ?_)⟩
  · refine sv_par ?_
    walk_at "ev"
    refine od_mod (by omega) ?_
    walk_at "ev"
    refine ⟨_, _, rfl, Wk.of ⟨x % n, Nat.mod_lt _ (by omega), rfl, n, x % n, rfl, rfl, ?_⟩⟩
    rw [Nat.gcd_comm n (x % n), ← Nat.gcd_rec, Nat.gcd_comm]
    exact e
  · walk_at "ev"
    refine rt_nil ?_
    have : n = 0 := by omega
    subst this
    rw [Nat.gcd_zero_right] at e
    rw [e]
    exact q
end

section
variable {w : World} {K : PySem.W.Frag} {Sok : List V → Prop}
abbrev PureN (Sok : List V → Prop) (K : PySem.W.Frag) (n : Nat) (N : List Str) (t : TS) (pre : Pre) : Prop :=
  ∀ (S : Addr → Prop) (ds : List D) (mc : M) (P : PD) (H : Hp) (U : Addr → Prop), ds.length = n → pre S ds mc P → Sv (wd K Sok S mc H U) t mc (startD N ds) { nx := fun m' _ => RtN mc P .none m', rt := RtN mc P }
abbrev PureX (Sok : List V → Prop) (K : PySem.W.Frag) (n : Nat) (N : List Str) (t : TS) (pre : PreX) : Prop :=
  ∀ (S : Addr → Prop) (ds : List D) (mc : M) (P : PX) (H : Hp) (U : Addr → Prop), ds.length = n → pre S ds mc P → Sv (wd K Sok S mc H U) t mc (startD N ds) { nx := fun m' _ => RtX mc P .none m', rt := RtX mc P }
theorem rt_same {P : PD} {d : D} {m : M} (h : P d m) : Rt m P d m := ⟨d, m, m, DLe.refl d, .refl _, MLe.refl _, rfl, h⟩
theorem rt_keys {P : PD} {d : D} {m mc : M} (e : m.map (·.1) = mc.map (·.1)) (h : P d m) : Rt mc P d m := ⟨d, m, m, DLe.refl d, .refl _, MLe.refl _, e, h⟩
theorem rt_cut {P : PD} {d : D} {m m' mc : M} (s : m.Sublist m') (e : m.map (·.1) = mc.map (·.1)) (h : P d m) : Rt mc P d m' := ⟨d, m, m, DLe.refl d, s, MLe.refl _, e, h⟩
theorem bit_lt (b : Bool) : (if b = true then (1 : Int) else 0).natAbs < 2 ^ 1 := by cases b <;> decide
theorem atI_int {α : Type} {xs : List α} {v : Int} (h0 : 0 ≤ v) (h : v.toNat < xs.length) : atI xs v = some (xs[v.toNat]'h) := by
  unfold atI ixN
  rw [if_pos (by omega), if_pos (by omega)]
  exact List.getElem?_eq_getElem h
theorem dts_erase : ∀ (l : List Int) (i : Nat), dts (l.eraseIdx i) = (dts l).eraseIdx i
  | [], _ => rfl
  | _ :: _, 0 => rfl
  | x :: l, i + 1 => by show PyData.int x :: dts (l.eraseIdx i) = _; rw [dts_erase l i]; rfl
theorem rgD_dts (n : Nat) : rgD 0 n = dts (rg n) := by
  unfold rgD rg
  rw [dts, List.map_map]
  simp [Function.comp_def]
theorem seqIx_nat {v : Int} {n : Nat} (h0 : 0 ≤ v) (h : v < n) : seqIndex? v n = some v.toNat := by
  unfold seqIndex?
  simp
  omega
/-! the draws -/
def potP (xs : List V) : Prop := ∃ a b : Int, xs = [.int a, .int b] ∧ 0 ≤ a ∧ a < 10 ^ 900 ∧ 0 ≤ b ∧ b < 2305843009213693951
abbrev pot (l : Addr) : Addr × MO := (l, .abs potP)
theorem mle_pot {l : Addr} {a b : Int} {m m' : M} (h1 : 0 ≤ a) (h2 : a < 10 ^ 900) (h3 : 0 ≤ b) (h4 : b < 2305843009213693951) (h : MLe m m') : MLe ((l, .lst [.int a, .int b]) :: m) (pot l :: m') :=
  .cons (fun K U H ⟨xs, e, r⟩ => ⟨xs, e, by
    cases r with
    | cons r1 r => cases r with
      | cons r2 r =>
        cases r; cases r1; cases r2
        exact ⟨a, b, rfl, h1, h2, h3, h4⟩⟩) h
def pre_law_stream : Pre := fun S ds mc P => ∃ (ns : List Int) (k : Nat), ds = [scr ns, .int k] ∧ mc = [] ∧ k < 1000 ∧ ∀ a b : Int, 0 ≤ a → a < 10 ^ 900 → 0 ≤ b → b < 2305843009213693951 → P (.list [.int a, .int b]) []
theorem pure_law_stream : PureN Sok K 2 N_law_stream (t_law_stream w K Sok) pre_law_stream := by
  rintro S _ _ P H U _ ⟨ns, k, rfl, rfl, hk, q⟩
  unfold t_law_stream
  show Sv _ _ [] [some (scr ns), some (.int k), none, none] _
  refine sv_seq (sv_asg (Ev.imp (P' := fun d m' => m' = [] ∧ ∃ c : Int, d = .int c) ?_ ?_))
  · walk_at "ev"
    refine cd_lenR ?_
    walk_at "ev"
    refine ⟨_, rfl, ite_dec (fun h => ?_) (fun h => ?_)⟩
    · walk_at "ev"
      have h : k < ns.length := by omega
      refine od_ixR (j := ns[k]) ?_ ⟨rfl, _, rfl⟩
      unfold atI ixN
      rw [if_pos (by omega)]
      simp [h]
    · walk_at "ev"
      refine od_mul (wide_mul (a := 62) (b := 62) (by decide) (by omega) (by decide) (by decide) (by decide)) ?_
      walk_at "ev"
      refine cd_lenR ?_
      walk_at "ev"
      exact ⟨rfl, _, rfl⟩
  · rintro d m' ⟨rfl, c, rfl⟩
    walk_at "ev"
    have ha : 0 ≤ (if c < 0 then -c else c) := by split <;> omega
    generalize (if c < 0 then -c else c) = x at ha ⊢
    have hN : (0 : Int) < 10 ^ 900 := by decide +kernel
    have hN2 : (10 : Int) ^ 900 < 2 ^ 3000 := by decide +kernel
    refine od_mod hN ?_
    walk_at "ev"
    refine od_powW (by decide +kernel) ?_
    walk_at "ev"
    have y1 := Int.emod_nonneg x (b := 10 ^ 900) (by omega)
    have y2 := Int.emod_lt_of_pos x hN
    have y3 : (x % 10 ^ 900).natAbs < 2 ^ 3000 := by omega
    generalize x % 10 ^ 900 = y at y1 y2 y3 ⊢
    refine od_mul (wide_mul (a := 3000) (b := 1) y3 (bit_lt _) (by decide) (by decide) (by decide)) ?_
    have z1 : ∀ b : Bool, 0 ≤ y * (if b = true then 1 else 0) ∧ y * (if b = true then 1 else 0) < 10 ^ 900 := by
      intro b
      cases b
      · simp only [Bool.false_eq_true, if_false, Int.mul_zero]
        exact ⟨Int.le_refl _, hN⟩
      · simp only [if_true, Int.mul_one]
        exact ⟨y1, y2⟩
    have z1 := z1 (decide (10 ^ Int.toNat 18 ≤ if c < 0 then -c else c))
    generalize y * (if decide (10 ^ Int.toNat 18 ≤ if c < 0 then -c else c) = true then 1 else 0) = z at z1 ⊢
    refine gv_name ?_
    dsimp only [List.set]
    refine sv_retM (el_lst ?_)
    walk_at "ev"
    refine od_mod (by decide) ?_
    have m1 := Int.emod_nonneg c (b := 2305843009213693951) (by decide)
    have m2 := Int.emod_lt_of_pos c (b := 2305843009213693951) (by decide)
    generalize c % 2305843009213693951 = y at m1 m2 ⊢
    walk_at "ev"
    refine od_mul (wide_mul (a := 62) (b := 62) (by decide) (by omega) (by decide) (by decide) (by decide)) ?_
    walk_at "ev"
    refine od_mul (wide_mul (a := 62) (b := 62) (by omega) (by omega) (by decide) (by decide) (by decide)) ?_
    walk_at "ev"
    have hk2 : (7919 : Int) * k * k < 2 ^ 62 := by
      have : (7919 : Int) * k * k ≤ 7919 * 1000 * 1000 := Int.mul_le_mul (by omega) (by omega) (by omega) (by omega)
      omega
    have hk3 : 0 ≤ (7919 : Int) * k * k := Int.mul_nonneg (by omega) (by omega)
    generalize (7919 : Int) * k * k = kk at hk2 hk3 ⊢
    refine od_mul (wide_mul (a := 64) (b := 62) (by omega) (by decide) (by decide) (by decide) (by decide)) ?_
    walk_at "ev"
    refine od_mod (by decide) ?_
    generalize (y + kk + 11) * 48271 = v
    have m1 := Int.emod_nonneg v (b := 2305843009213693951) (by decide)
    have m2 := Int.emod_lt_of_pos v (b := 2305843009213693951) (by decide)
    generalize v % 2305843009213693951 = u at m1 m2 ⊢
    walk_at "ev"
    exact ⟨by rw [sizeLine_eq]; show 2 ≤ _; omega, fun p => rtN_nil (q z u z1.1 z1.2 m1 m2)⟩
/-! draw -/
def pre_law_draw : Pre := fun S ds mc P => ∃ (l : Addr) (u : Int), ds = [ob l, .int u] ∧ mc = [pot l] ∧ 0 < u ∧ u < 2 ^ 8000 ∧ ∀ v : Int, 0 ≤ v → v < u → P (.int v) [pot l]
theorem rt_pot {l : Addr} {a b : Int} {P : PD} {d : D} (h1 : 0 ≤ a) (h2 : a < 10 ^ 900) (h3 : 0 ≤ b) (h4 : b < 2305843009213693951) (h : P d [pot l]) : Rt [pot l] P d [(l, .lst [.int a, .int b])] :=
  ⟨d, _, [pot l], DLe.refl d, .refl _, mle_pot h1 h2 h3 h4 .nil, rfl, h⟩
theorem pure_law_draw : Pure Sok K 2 N_law_draw (t_law_draw w K Sok) pre_law_draw := by
  rintro S _ _ P H U _ ⟨l, u, rfl, rfl, hu, hu2, q⟩
  unfold t_law_draw
  show Sv _ _ _ [some (ob l), some (.int u), none] _
  refine sv_open (i := 0) rfl fun xs ⟨a, b, e, ha, ha2, hb, hb2⟩ => ⟨[.int a, .int b], fun K U H => by rw [e]; exact .cons (.int a) (.cons (.int b) .nil), ?_⟩
  dsimp only [List.set]
  walk_at "ev"
  refine od_ixM (n := 0) rfl rfl ?_
  walk_at "ev"
  refine ⟨_, rfl, ite_dec (fun h => ?_) (fun h => ?_)⟩
  · walk_at "ev"
    refine od_ixM (n := 0) rfl rfl ?_
    walk_at "ev"
    refine od_mod hu ?_
    walk_at "ev"
    refine od_ixM (n := 0) rfl rfl ?_
    walk_at "ev"
    refine od_fdiv (wide_div (b := 8000) hu (by omega) (by decide) (by decide)) ?_
    walk_at "ev"
    refine ⟨l, rfl, ?_⟩
    walk_at "ev"
    refine ⟨0, 0, 0, _, rfl, rfl, rfl, ?_⟩
    dsimp only [List.set]
    walk_at "ev"
    have v1 := Int.emod_nonneg a (b := u) (by omega)
    have v2 := Int.emod_lt_of_pos a hu
    have e1 := Int.ediv_nonneg ha (Int.le_of_lt hu)
    have e2 := Int.ediv_le_self u ha
    exact rt_pot e1 (Int.lt_of_le_of_lt e2 ha2) hb hb2 (q _ v1 v2)
  · walk_at "ev"
    refine od_ixM (n := 0) rfl rfl ?_
    walk_at "ev"
    refine od_mul (wide_mul (a := 62) (b := 62) (by omega) (by decide) (by decide) (by decide) (by decide)) ?_
    walk_at "ev"
    refine od_mod (by decide) ?_
    walk_at "ev"
    refine ⟨l, rfl, ?_⟩
    walk_at "ev"
    refine ⟨1, 0, 1, _, rfl, rfl, rfl, ?_⟩
    dsimp only [List.set]
    generalize b * 1181783497276652981 + 12345678910987 = b1
    have m1 := Int.emod_nonneg b1 (b := 2305843009213693951) (by decide)
    have m2 := Int.emod_lt_of_pos b1 (b := 2305843009213693951) (by decide)
    generalize b1 % 2305843009213693951 = b2 at m1 m2 ⊢
    walk_at "ev"
    refine od_ixM (n := 0) rfl rfl ?_
    walk_at "ev"
    refine od_fdiv (wide_div (b := 64) (by decide) (by decide) (by decide) (by decide)) ?_
    walk_at "ev"
    refine od_ixM (n := 0) rfl rfl ?_
    walk_at "ev"
    refine od_mod (by decide) ?_
    walk_at "ev"
    refine od_mul (wide_mul (a := 62) (b := 62) (by omega) (by omega) (by decide) (by decide) (by decide)) ?_
    walk_at "ev"
    refine od_mod (by decide) ?_
    walk_at "ev"
    refine od_fdiv (wide_div (b := 64) (by decide) (by decide) (by decide) (by decide)) ?_
    walk_at "ev"
    refine od_mod hu ?_
    have e9 : ∀ z : Int, 0 ≤ z % u ∧ z % u < u := fun z => ⟨Int.emod_nonneg z (by omega), Int.emod_lt_of_pos z hu⟩
    exact rt_pot ha ha2 m1 m2 (q _ (e9 _).1 (e9 _).2)
/-! shuffled -/
def pre_law_shuffled : Pre := fun S ds mc P => ∃ (l : Addr) (xs : List Int), ds = [ob l, .list (dts xs)] ∧ mc = [pot l] ∧ xs.length ≤ 1000 ∧ ∀ ys : List Int, ys.Perm xs → P (.list (dts ys)) [pot l]
theorem pure_law_shuffled : PureN Sok K 2 N_law_shuffled (t_law_shuffled w K Sok pre_law_draw) pre_law_shuffled := by
  rintro S _ _ P H U _ ⟨l, xs, rfl, rfl, hl, q⟩
  unfold t_law_shuffled
  show Sv _ _ _ [some (ob l), some (.list (dts xs)), none, none] _
  refine sv_seq (sv_parMM (el_cb (ea_cons (ev_var rfl (ea_nil (cl_listL (el_lst (ea_nil ⟨by simp, fun p1 p2 => ?_⟩))))))))
  refine sv_perm (List.perm_append_comm (l₁ := [(p2, MO.lst []), (p1, MO.lst (dts xs))]) (l₂ := [pot l])) ?_
  dsimp only [List.set, List.cons_append, List.nil_append]
  refine sv_seq (sv_while (fun k m' ρ' => (∃ F Sm : List Int, m' = [pot l, (p2, .lst (dts Sm)), (p1, .lst (dts F))] ∧ F.length = k ∧ Sm.length + F.length = xs.length ∧ (Sm ++ F).Perm xs) ∧ ρ' = [some (ob l), some (.list (dts xs)), some (ob p1), some (ob p2)]) xs.length ⟨⟨xs, [], rfl, rfl, by simp, by simp⟩, rfl⟩ ?_)
  rintro k m' ρ' ⟨⟨F, Sm, rfl, hk, hL, hp⟩, rfl⟩
  have hFl : (dts F).length = F.length := List.length_map ..
  have hSl : (dts Sm).length = Sm.length := List.length_map ..
  walk_at "ev"
  refine ev_ofL (el_lst (ea_nil ⟨by simp, ?_⟩))
  refine od_neML (i := 2) (es := dts []) rfl (plain_dts F) (plain_dts []) (shaped_dtsL F) (shaped_dtsL []) ?_
  rw [eqv_dtsL]
  refine ⟨_, rfl, ite_ndec (fun h => ?_) (fun h => ?_)⟩
  · have hF : 0 < F.length := by
      rcases Nat.eq_zero_or_pos F.length with z | z
      · exact absurd (List.eq_nil_of_length_eq_zero z) h
      · exact z
    walk_at "ev"
    refine ev_bm ?_
    walk_at "ev"
    refine ⟨ty_M (n := 1) rfl, ?_⟩
    walk_at "ev"
    refine ev_bm ?_
    walk_at "ev"
    refine ⟨ty_M (n := 2) rfl, ?_⟩
    walk_at "ev"
    refine ev_callM ?_
    walk_at "ev"
    refine cd_lenM (n := 2) rfl ?_
    walk_at "ev"
    refine ⟨[pot l], [(p2, .lst (dts Sm)), (p1, .lst (dts F))], rfl, rfl, l, _, rfl, rfl, by omega, by omega, fun v v1 v2 => ?_⟩
    dsimp only [List.cons_append, List.nil_append]
    walk_at "ev"
    have hv : v.toNat < F.length := by omega
    refine md_popAt (n := 2) (j := v.toNat) (d := .int F[v.toNat]) rfl (by omega) (by omega) (seqIx_nat v1 (by omega)) (by rw [dts, List.getElem?_map, List.getElem?_eq_getElem hv]; rfl) ?_
    dsimp only [List.set]
    walk_at "ev"
    refine md_append (n := 1) rfl (by rw [hSl, sizeLine_eq]; omega) ?_
    dsimp only [List.set]
    refine Wk.of ⟨k - 1, by omega, ⟨F.eraseIdx v.toNat, Sm ++ [F[v.toNat]], ?_, ?_, ?_, ?_⟩, rfl⟩
    · have e1 : dts (Sm ++ [F[v.toNat]]) = dts Sm ++ [.int F[v.toNat]] := List.map_append ..
      have e2 : dts (F.eraseIdx v.toNat) = (dts F).eraseIdx v.toNat := dts_erase F v.toNat
      rw [e1, e2]
    · rw [List.length_eraseIdx, if_pos hv]; omega
    · rw [List.length_append, List.length_eraseIdx, if_pos hv]; simp; omega
    · refine .trans ?_ hp
      rw [List.append_assoc]
      exact List.Perm.append_left Sm ((perm_at F[v.toNat] (List.getElem?_eq_getElem hv)).1.symm)
  · subst h
    rw [List.append_nil] at hp
    refine sv_perm (m' := [(p2, .lst (dts Sm)), pot l, (p1, .lst (dts []))]) (List.Perm.swap _ _ _) ?_
    walk_at "ev"
    exact ⟨p2, dts Sm, _, [pot l], [pot l], rfl, rfl, List.Sublist.cons₂ _ (List.nil_sublist _), MLe.refl _, rfl, q Sm hp⟩
end
section
variable {w : World} {K : PySem.W.Frag} {Sok : List V → Prop}
/-! comb -/
def pre_law_comb : Pre := fun S ds mc P => ∃ n k : Nat, ds = [.int n, .int k] ∧ mc = [] ∧ n ≤ 60 ∧ k ≤ n ∧ P (.int (ch n k : Nat)) []
theorem pure_law_comb : Pure Sok K 2 N_law_comb (t_law_comb w K Sok) pre_law_comb := by
  rintro S _ _ P H U _ ⟨n, k, rfl, rfl, hn, hk, q⟩
  unfold t_law_comb
  show Sv _ _ [] [some (.int n), some (.int k), none, none] _
  walk_at "ev"
  refine sv_for (ei_r1 ?_)
  walk_at "ev"
  refine ⟨_, rfl, by omega, by omega, fun i m' ρ' => m' = [] ∧ ∃ x3, ρ' = [some (.int n), some (.int k), some (.int (ch n i : Nat)), x3], ⟨rfl, none, by rw [ch_zero]; rfl⟩, ?_, ?_⟩
  · rintro i d m' ρ' hd ⟨rfl, x3, rfl⟩
    obtain ⟨hi, rfl⟩ := rng_get hd
    have hin : i < n := by omega
    have b1 : ch n i < 2 ^ 61 := Nat.lt_of_le_of_lt (ch_le n i) (Nat.lt_of_le_of_lt (Nat.pow_le_pow_right (by decide) hn) (by decide))
    walk_at "ev"
    refine od_mul (wide_mul (a := 61) (b := 10) (by omega) (by omega) (by omega) (by omega) (by omega)) ?_
    walk_at "ev"
    refine od_fdiv (wide_div (b := 10) (by omega) (by omega) (by omega) (by omega)) ?_
    walk_at "ev"
    refine Wk.of ⟨rfl, some (.int (0 + (i : Int))), ?_⟩
    have e : ((ch n i : Nat) : Int) * (↑n - (0 + ↑i)) / (0 + ↑i + 1) = ((ch n (i + 1) : Nat) : Int) := by
      rw [← ch_step hin]
      have e1 : (n : Int) - (0 + (i : Int)) = ((n - i : Nat) : Int) := by omega
      have e2 : 0 + (i : Int) + 1 = ((i + 1 : Nat) : Int) := by omega
      rw [e1, e2, ← Int.natCast_mul, ← Int.natCast_ediv]
    rw [e]
  · rintro m' ρ' ⟨rfl, x3, rfl⟩
    rw [rng_len, show ((k : Int)).toNat = k by omega]
    walk_at "ev"
    refine ⟨_, rfl, ite_yes (by omega) ?_⟩
    walk_at "ev"
    exact rt_nil q
/-! least -/
def pre_law_least : Pre := fun S ds mc P => ∃ n d : Nat, ds = [.int n, .int d] ∧ mc = [] ∧ 1 ≤ n ∧ n ≤ 60 ∧ d ≤ n ∧ P (.int (LL n d : Nat)) []
theorem pure_law_least : Pure Sok K 2 N_law_least (t_law_least w K Sok pre_law_comb pre_law_gcd) pre_law_least := by
  rintro S _ _ P H U _ ⟨n, d, rfl, rfl, h1, hn, hd, q⟩
  unfold t_law_least
  show Sv _ _ [] [some (.int n), some (.int d), none, none, none] _
  walk_at "ev"
  refine sv_for (ei_r1 ?_)
  walk_at "ev"
  refine ⟨_, rfl, by omega, by omega, fun i m' ρ' => m' = [] ∧ ∃ x3 x4, ρ' = [some (.int n), some (.int d), some (.int (LL n i : Nat)), x3, x4], ⟨rfl, none, none, rfl⟩, ?_, ?_⟩
  · rintro i x m' ρ' hx ⟨rfl, x3, x4, rfl⟩
    obtain ⟨hi, rfl⟩ := rng_get hx
    have hi : i < d := by omega
    have b1 : LL n i < 2 ^ 4000 := Nat.lt_of_lt_of_le (LL_lt hn i) (Nat.pow_le_pow_right (by decide) (by omega))
    have b2 : ed n i < 2 ^ 66 := ed_lt hn
    have p1 : 0 < LL n i := LL_pos (by omega)
    have p2 : 0 < ed n i := ed_pos (by omega)
    have g1 : 0 < Nat.gcd (LL n i) (ed n i) := Nat.gcd_pos_of_pos_left _ p1
    have g2 : Nat.gcd (LL n i) (ed n i) ≤ ed n i := Nat.le_of_dvd p2 (Nat.gcd_dvd_right _ _)
    walk_at "ev"
    refine ev_call ?_
    walk_at "ev"
    refine ⟨rfl, n - 1, i, by rw [show (n : Int) - 1 = ((n - 1 : Nat) : Int) by omega, Int.zero_add], rfl, by omega, by omega, ?_⟩
    have hch : ch (n - 1) i ≤ 2 ^ 60 := Nat.le_trans (ch_le _ _) (Nat.pow_le_pow_right (by decide) (by omega))
    refine od_mul (wide_mul (a := 60) (b := 62) (by omega) (by omega) (by decide) (by decide) (by decide)) ?_
    have ep : (n : Int) * ((ch (n - 1) i : Nat) : Int) = ((ed n i : Nat) : Int) := by rw [← Int.natCast_mul]; rfl
    rw [ep]
    walk_at "ev"
    refine od_mul (wide_mul (a := 4000) (b := 66) (by rw [Int.natAbs_natCast]; exact b1) (by rw [Int.natAbs_natCast]; exact b2) (by decide) (by decide) (by decide)) ?_
    walk_at "ev"
    refine ev_call ?_
    walk_at "ev"
    refine ⟨rfl, _, _, rfl, rfl, ?_⟩
    refine od_fdiv (wide_div (b := 66) (by omega) (by omega) (by omega) (by omega)) ?_
    rw [← Int.natCast_mul, ← Int.natCast_ediv]
    walk_at "ev"
    exact Wk.of ⟨rfl, some (.int (0 + (i : Int))), some (.int (ed n i : Nat)), rfl⟩
  · rintro m' ρ' ⟨rfl, x3, x4, rfl⟩
    rw [rng_len, show ((d : Int)).toNat = d by omega]
    walk_at "ev"
    exact rt_nil q
end
end Tx

set_option Elab.async false
set_option linter.all false
set_option maxRecDepth 100000
set_option maxHeartbeats 2000000
set_option exponentiation.threshold 9000
namespace Tx
open PySem PySem.Spec PyProof.Rows L2 DL EM
/-! ### tactics -/
local macro_rules | `(tactic| walk_at "ev1") => `(tactic| first
  | with_reducible refine sv_seq ?_
  | with_reducible refine sv_ret ?_
  | with_reducible refine sv_retN ?_
  | with_reducible refine sv_asgSub ?_
  | with_reducible refine sv_asg ?_
  | with_reducible refine sv_drop ?_
  | with_reducible refine sv_if ?_
  | with_reducible refine sv_next ?_
  | with_reducible refine gv_name ?_
  | with_reducible refine ev_int ?_
  | with_reducible refine ev_bl ?_
  | with_reducible refine ev_str ?_
  | with_reducible refine ev_non ?_
  | with_reducible refine ev_ty ?_
  | with_reducible refine ev_op ?_
  | with_reducible refine ev_un ?_
  | with_reducible refine ev_if ?_
  | with_reducible refine ev_andV ?_
  | with_reducible refine ev_orV ?_
  | with_reducible refine ev_notV ?_
  | with_reducible refine ev_chain ?_
  | with_reducible refine ev_ofL (el_sortedSet ?_)
  | with_reducible refine ev_big ?_
  | with_reducible refine ev_cb ?_
  | with_reducible refine ev_fld ?_
  | with_reducible refine ev_tup ?_
  | with_reducible refine ev_sl ?_
  | with_reducible refine et_test ?_
  | with_reducible refine et_B ?_
  | with_reducible refine et_and ?_
  | with_reducible refine et_or ?_
  | with_reducible refine et_not ?_
  | with_reducible refine et_yes ?_
  | with_reducible refine ea_nil ?_
  | with_reducible refine ea_cons ?_
  | with_reducible refine eo_none ?_
  | with_reducible refine eo_some ?_
  | refine ev_var rfl ?_
  | with_reducible refine od_add ?_
  | with_reducible refine od_sub ?_
  | with_reducible refine od_lt ?_
  | with_reducible refine od_le ?_
  | with_reducible refine od_gt ?_
  | with_reducible refine od_ge ?_
  | with_reducible refine od_eqI ?_
  | with_reducible refine od_neI ?_
  | with_reducible refine cd_lenT ?_
  | with_reducible refine cd_lenL ?_
  | with_reducible refine cd_abs ?_
  | with_reducible refine cd_max2 ?_
  | with_reducible refine cd_min2 ?_
  | with_reducible refine cd_intB ?_
  | with_reducible refine cd_tupL ?_
  | with_reducible refine iteT ?_
  | with_reducible refine iteF ?_)
local macro_rules | `(tactic| walk_at "ev") => `(tactic| repeat (first | walk_at "ev1" | (dsimp only [List.set, List.nil_append])))
section
variable {w : World} {K : PySem.W.Frag} {Sok : List V → Prop}
/-! is_possible -/
def pre_is_possible : Pre := fun S ds mc P => ∃ n d c : Nat, ds = [.int n, .int d, .int c] ∧ mc = [] ∧ 1 ≤ n ∧ n ≤ 60 ∧ d ≤ n ∧ 0 < c ∧ LL n d ∣ c ∧ P (.bool true) []
theorem pure_is_possible : Pure Sok K 3 N_is_possible (t_is_possible w K Sok pre_is_integer_numbers pre_least_lists) pre_is_possible := by
  rintro S _ _ P H U _ ⟨n, d, c, rfl, rfl, h1, hn, hd, hc, hdv, q⟩
  unfold t_is_possible
  show Sv _ _ [] [some (.int n), some (.int d), some (.int c)] _
  walk_at "ev"
  refine ev_call ?_
  walk_at "ev"
  refine ⟨rfl, _, rfl, rfl, _, rfl, iteT ?_⟩
  walk_at "ev"
  refine ⟨_, rfl, ite_yes (by omega) ?_⟩
  walk_at "ev"
  refine ev_call ?_
  walk_at "ev"
  have p1 : 0 < LL n d := LL_pos hd
  refine ⟨rfl, n, d, rfl, rfl, h1, hn, hd, od_mod (by omega) ?_⟩
  walk_at "ev"
  refine rt_nil ?_
  have e : (c : Int) % (LL n d : Nat) = 0 := by
    rw [← Int.natCast_emod, Nat.mod_eq_zero_of_dvd hdv]
    rfl
  rw [decide_eq_true e]
  exact q
/-! look_at_count -/
def pre_look_at_count : Pre := fun S ds mc P => ∃ n d c : Nat, ds = [.int n, .int d, .int c] ∧ mc = [] ∧ 1 ≤ n ∧ n ≤ 60 ∧ d ≤ n ∧ 0 < c ∧ LL n d ∣ c ∧ P .none []
theorem pure_look_at_count : Pure Sok K 3 N_look_at_count (t_look_at_count w K Sok pre_is_possible) pre_look_at_count := by
  rintro S _ _ P H U _ ⟨n, d, c, rfl, rfl, h1, hn, hd, hc, hdv, q⟩
  unfold t_look_at_count
  show Sv _ _ [] [some (.int n), some (.int d), some (.int c)] _
  walk_at "ev"
  refine ev_call ?_
  walk_at "ev"
  refine ⟨rfl, n, d, c, rfl, rfl, h1, hn, hd, hc, hdv, true, rfl, iteF ?_⟩
  walk_at "ev"
  exact rt_nil q
/-! outside -/
def pre_outside : Pre := fun S ds mc P => ∃ (n : Nat) (M : List Int), ds = [.int n, .tuple (dts M)] ∧ mc = [] ∧ n ≤ 1000 ∧ P (ntup (dts (outs n M))) []
theorem filter_rg (n i : Nat) (M : List Int) (h : i < n) : ((rg n).take (i + 1)).filter (fun x => !decide (x ∈ M)) = ((rg n).take i).filter (fun x => !decide (x ∈ M)) ++ (if (i : Int) ∈ M then [] else [(i : Int)]) := by
  rw [List.take_add_one, rg_get h, List.filter_append]
  congr 1
  by_cases c : (i : Int) ∈ M
  · simp [c]
  · simp [c]
theorem pure_outside : Pure Sok K 2 N_outside (t_outside w K Sok) pre_outside := by
  rintro S _ _ P H U _ ⟨n, M, rfl, rfl, hn, q⟩
  unfold t_outside
  show Sv _ _ [] [some (.int n), some (.tuple _), none] _
  walk_at "ev"
  refine ev_ofL (el_lc (own_name (by simp)) mono_name (ei_r1 ?_))
  walk_at "ev"
  refine ⟨_, rfl, by omega, by omega, by rw [rng_len, sizeLine_eq]; omega, fun i acc m' => m' = [] ∧ acc = dts (((rg n).take i).filter fun x => !decide (x ∈ M)), ⟨rfl, rfl⟩, ?_, ?_⟩
  · rintro i x acc m' hx ⟨rfl, rfl⟩
    obtain ⟨hi, rfl⟩ := rng_get hx
    have hi : i < n := by omega
    refine gv_name ?_
    dsimp only [wipeD, List.set]
    walk_at "ev"
    refine od_inT (neg := true) ?_
    refine ⟨_, rfl, ?_⟩
    rw [if_pos rfl, Int.zero_add]
    refine ite_ndec (fun h => ?_) (fun h => ?_)
    · walk_at "ev"
      refine ⟨rfl, ?_⟩
      rw [filter_rg n i M hi, if_neg h, dts, dts, List.map_append]
      rfl
    · refine ⟨rfl, ?_⟩
      rw [filter_rg n i M hi, if_pos h, List.append_nil]
  · rintro acc m' ⟨rfl, rfl⟩
    rw [rng_len, show ((n : Int)).toNat = n by omega, List.take_of_length_le (by rw [rg_length]; omega)]
    walk_at "ev"
    exact cd_tupN (rt_nil q)
/-! with_server -/
def pre_with_server : Pre := fun S ds mc P => ∃ (M : List Int) (s : Int), ds = [.tuple (dts M), .int s] ∧ mc = [] ∧ M.length ≤ 1000 ∧ P (ntup (dts (srt (M ++ [s])))) []
theorem pure_with_server : Pure Sok K 2 N_with_server (t_with_server w K Sok) pre_with_server := by
  rintro S _ _ P H U _ ⟨M, s, rfl, rfl, hl, q⟩
  unfold t_with_server
  show Sv _ _ [] [some (.tuple _), some (.int s)] _
  walk_at "ev"
  refine ⟨by rw [sizeLine_eq]; show 1 ≤ _; omega, ?_⟩
  refine od_addT (by rw [sizeLine_eq, List.length_map]; show _ + 1 ≤ _; omega) ?_
  walk_at "ev"
  rw [show (dts M ++ [.int s]) = dts (M ++ [s]) by rw [dts, dts, List.map_append]; rfl]
  refine cd_ofL (cl_sortedT ?_)
  walk_at "ev"
  exact cd_tupN (rt_nil q)
/-! next_place -/
theorem atI_dts {M : List Int} {i : Nat} {x : Int} (h : M[i]? = some x) : L2.atI (dts M) (i : Int) = some (.int x) := atI_nat (by rw [dts, List.getElem?_map, h]; rfl)
def pre_next_place : Pre := fun S ds mc P => ∃ (n d c : Nat) (M : List Int) (r : Nat), ds = [.int n, .int c, .tuple (dts M), .int r] ∧ mc = [] ∧ n ≤ 60 ∧ d ≤ n ∧ LL n d ∣ c ∧ 0 < c ∧ c < 2 ^ 8000 ∧ Good n M ∧ M.length < d ∧ r < rst n c M.length ∧
  P (.tuple [.int (stepS n c M r), .tuple (dts (stepM n c M r)), .int (stepR n c M r : Nat)]) []
theorem pure_next_place : Pure Sok K 4 N_next_place (t_next_place w K Sok pre_edge_divisor pre_outside pre_with_server) pre_next_place := by
  rintro S _ _ P H U _ ⟨n, d, c, M, r, rfl, rfl, hn, hd, hdv, hc, hc2, g, hM, hr, q⟩
  unfold t_next_place
  show Sv _ _ [] [some (.int n), some (.int c), some (.tuple _), some (.int r), none, none, none] _
  have hw := wid_pos hdv hM hd hc
  have hs := stepS_get g hdv hM hd hc hr
  obtain ⟨hs1, hs2⟩ := stepS_mem g hdv hM hd hc hr
  obtain ⟨g2, hl2, hr2⟩ := step_good g hdv hM hd hc hr
  have hlen : (dts M).length = M.length := List.length_map ..
  have he := ed_lt (b := M.length) hn
  have he0 := ed_pos (n := n) (b := M.length) (by omega)
  walk_at "ev"
  refine ev_call ?_
  walk_at "ev"
  refine ⟨rfl, n, M.length, by rw [hlen], rfl, by omega, hn, ?_⟩
  refine od_fdiv (wide_div (b := 66) (by omega) (by omega) (by omega) (by omega)) ?_
  rw [← Int.natCast_ediv]
  walk_at "ev"
  refine ev_call ?_
  walk_at "ev"
  refine ⟨rfl, n, M, rfl, rfl, by omega, ?_⟩
  have hwl : wid n c M.length < 2 ^ 8000 := Nat.lt_of_le_of_lt (Nat.div_le_self _ _) hc2
  walk_at "ev"
  refine od_fdiv (wide_div (b := 8000) (by show (0 : Int) < ((wid n c M.length : Nat) : Int); omega) (by rw [Int.natAbs_natCast]; exact hwl) (by decide) (by decide)) ?_
  rw [← Int.natCast_ediv]
  refine od_nt1 (od_ixT (atI_dts hs) ?_)
  walk_at "ev"
  refine ev_call ?_
  walk_at "ev"
  refine ⟨rfl, M, _, rfl, rfl, by have := good_le g; omega, ?_⟩
  walk_at "ev"
  refine ev_bmN ?_
  walk_at "ev"
  refine ⟨_, rfl, ?_⟩
  walk_at "ev"
  have hm : stepS n c M r ∈ stepM n c M r := by unfold stepM; rw [mem_srt]; simp
  refine md_indexT (get_idx hm) (first_of (asc_nodup g2.asc) (get_idx hm)) ?_
  walk_at "ev"
  have hil := idx_lt hm
  refine od_mul (wide_mul (a := 20) (b := 8000) (by rw [Int.natAbs_natCast]; show List.idxOf (stepS n c M r) (stepM n c M r) < _; omega) (by rw [Int.natAbs_natCast]; exact hwl) (by decide) (by decide) (by decide)) ?_
  walk_at "ev"
  refine od_mod (by show (0 : Int) < ((wid n c M.length : Nat) : Int); omega) ?_
  walk_at "ev"
  refine ⟨by rw [sizeLine_eq]; show 3 ≤ _; omega, rt_co (dle_tup (.cons (DLe.refl _) (.cons (dle_nt _) (.cons (DLe.refl _) .nil)))) ?_⟩
  rw [← Int.natCast_mul, ← Int.natCast_emod, ← Int.natCast_add]
  exact q
end

section
variable {w : World} {K : PySem.W.Frag} {Sok : List V → Prop}
/-! walk -/
def pre_walk : Pre := fun S ds mc P => ∃ n d c k : Nat, ds = [.int n, .int d, .int c, .int k] ∧ mc = [] ∧ 1 ≤ n ∧ n ≤ 60 ∧ d ≤ n ∧ LL n d ∣ c ∧ 0 < c ∧ c < 2 ^ 8000 ∧ k < c ∧
  P (.tuple [.tuple (dts (walkP n c d [] k).1), .tuple (dts (walkP n c d [] k).2.1), .int ((walkP n c d [] k).2.2 : Nat)]) []
theorem pure_walk : Pure Sok K 4 N_walk (t_walk w K Sok pre_look_at_count pre_is_integer_numbers pre_next_place) pre_walk := by
  rintro S _ _ P H U _ ⟨n, d, c, k, rfl, rfl, h1, hn, hd, hdv, hc, hc2, hk, q⟩
  unfold t_walk
  show Sv _ _ [] [some (.int n), some (.int d), some (.int c), some (.int k), none, none, none, none, none] _
  walk_at "ev"
  refine ev_call ?_
  walk_at "ev"
  refine ⟨rfl, n, d, c, rfl, rfl, h1, hn, hd, hc, hdv, ?_⟩
  walk_at "ev"
  refine ev_call ?_
  walk_at "ev"
  refine ⟨rfl, _, rfl, rfl, ?_⟩
  refine ⟨_, rfl, ?_⟩
  rw [if_neg (by decide)]
  walk_at "ev"
  refine ⟨_, rfl, ite_yes (by omega) ?_⟩
  walk_at "ev"
  refine ⟨_, rfl, ?_⟩
  rw [decide_eq_true (show (k : Int) < c by omega)]
  refine iteF ?_
  walk_at "ev"
  refine sv_par3M (el_lst ?_)
  walk_at "ev"
  refine ⟨by simp, ?_⟩
  walk_at "ev"
  refine ⟨by simp, ?_⟩
  walk_at "ev"
  refine ⟨_, _, rfl, fun p => ?_⟩
  walk_at "ev"
  refine sv_for (ei_r1 ?_)
  walk_at "ev"
  refine ⟨_, rfl, by omega, by omega, fun i m' ρ' => m' = [(p, .lst (dts (walkP n c i [] k).1))] ∧ ∃ x7 x8, ρ' = [some (.int n), some (.int d), some (.int c), some (.int k), some (ob p), some (.tuple (dts (walkP n c i [] k).2.1)), some (.int ((walkP n c i [] k).2.2 : Nat)), x7, x8], ⟨rfl, none, none, rfl⟩, ?_, ?_⟩
  · rintro i x m' ρ' hx ⟨rfl, x7, x8, rfl⟩
    obtain ⟨hi, rfl⟩ := rng_get hx
    have hi : i < d := by omega
    obtain ⟨a1, a2, a3, a4, a5⟩ := walk_good hdv hd hc i [] k (good_nil n) (by simp; omega) (by rw [List.length_nil, rst_zero]; exact hk)
    rw [List.length_nil, Nat.zero_add] at a2 a3
    walk_at "ev"
    refine ev_call ?_
    walk_at "ev"
    refine ⟨rfl, n, d, c, _, _, rfl, rfl, hn, hd, hdv, hc, hc2, a1, by rw [a2]; exact hi, by rw [a2]; exact a3, ?_⟩
    refine gv_tup rfl (gv_cons (gv_name (gv_cons (gv_name (gv_cons (gv_name (gv_nil ?_)))))))
    walk_at "ev"
    refine ev_bm ?_
    walk_at "ev"
    refine ⟨ty_M (n := 0) rfl, ?_⟩
    walk_at "ev"
    refine md_append (n := 0) rfl (by rw [List.length_map, a4, sizeLine_eq]; omega) ?_
    refine Wk.of ⟨?_, some (.int (0 + (i : Int))), some (.int (stepS n c (walkP n c i [] k).2.1 (walkP n c i [] k).2.2)), ?_⟩
    · rw [walkP_last]
      show [(p, MO.lst _)] = _
      rw [dts, dts, List.map_append]
      rfl
    · rw [walkP_last]
  · rintro m' ρ' ⟨rfl, x7, x8, rfl⟩
    rw [rng_len, show ((d : Int)).toNat = d by omega]
    walk_at "ev"
    refine cd_tupM (n := 0) rfl ?_
    walk_at "ev"
    exact ⟨by rw [sizeLine_eq]; show 3 ≤ _; omega, rt_nil q⟩
/-! list_at -/
def pre_list_at : Pre := fun S ds mc P => ∃ n d c k : Nat, ds = [.int n, .int d, .int c, .int k] ∧ mc = [] ∧ 1 ≤ n ∧ n ≤ 60 ∧ d ≤ n ∧ LL n d ∣ c ∧ 0 < c ∧ c < 2 ^ 8000 ∧ k < c ∧ P (.tuple (dts (walkP n c d [] k).1)) []
theorem pure_list_at : Pure Sok K 4 N_list_at (t_list_at w K Sok pre_walk) pre_list_at := by
  rintro S _ _ P H U _ ⟨n, d, c, k, rfl, rfl, h1, hn, hd, hdv, hc, hc2, hk, q⟩
  unfold t_list_at
  show Sv _ _ [] [some (.int n), some (.int d), some (.int c), some (.int k)] _
  walk_at "ev"
  refine ev_call ?_
  walk_at "ev"
  refine ⟨rfl, n, d, c, k, rfl, rfl, h1, hn, hd, hdv, hc, hc2, hk, ?_⟩
  walk_at "ev"
  refine od_ixT (d := .tuple (dts (walkP n c d [] k).1)) rfl (rt_nil q)
end

end Tx

set_option Elab.async false
set_option linter.all false
set_option maxRecDepth 100000
set_option maxHeartbeats 2000000
set_option exponentiation.threshold 9000
namespace Tx
open PySem PySem.Spec PyProof.Rows L2 DL EM
/-! ### tactics -/
local macro_rules | `(tactic| walk_at "ev1") => `(tactic| first
  | with_reducible refine sv_seq ?_
  | with_reducible refine sv_ret ?_
  | with_reducible refine sv_retN ?_
  | with_reducible refine sv_asgSub ?_
  | with_reducible refine sv_asg ?_
  | with_reducible refine sv_drop ?_
  | with_reducible refine sv_if ?_
  | with_reducible refine sv_next ?_
  | with_reducible refine gv_name ?_
  | with_reducible refine ev_int ?_
  | with_reducible refine ev_bl ?_
  | with_reducible refine ev_str ?_
  | with_reducible refine ev_non ?_
  | with_reducible refine ev_ty ?_
  | with_reducible refine ev_op ?_
  | with_reducible refine ev_un ?_
  | with_reducible refine ev_if ?_
  | with_reducible refine ev_andV ?_
  | with_reducible refine ev_orV ?_
  | with_reducible refine ev_notV ?_
  | with_reducible refine ev_chain ?_
  | with_reducible refine ev_ofL (el_sortedSet ?_)
  | with_reducible refine ev_big ?_
  | with_reducible refine ev_cb ?_
  | with_reducible refine ev_fld ?_
  | with_reducible refine ev_tup ?_
  | with_reducible refine ev_sl ?_
  | with_reducible refine et_test ?_
  | with_reducible refine et_B ?_
  | with_reducible refine et_and ?_
  | with_reducible refine et_or ?_
  | with_reducible refine et_not ?_
  | with_reducible refine et_yes ?_
  | with_reducible refine ea_nil ?_
  | with_reducible refine ea_cons ?_
  | with_reducible refine eo_none ?_
  | with_reducible refine eo_some ?_
  | refine ev_var rfl ?_
  | with_reducible refine od_add ?_
  | with_reducible refine od_sub ?_
  | with_reducible refine od_lt ?_
  | with_reducible refine od_le ?_
  | with_reducible refine od_gt ?_
  | with_reducible refine od_ge ?_
  | with_reducible refine od_eqI ?_
  | with_reducible refine od_neI ?_
  | with_reducible refine cd_lenT ?_
  | with_reducible refine cd_lenL ?_
  | with_reducible refine cd_abs ?_
  | with_reducible refine cd_max2 ?_
  | with_reducible refine cd_min2 ?_
  | with_reducible refine cd_intB ?_
  | with_reducible refine cd_tupL ?_
  | with_reducible refine iteT ?_
  | with_reducible refine iteF ?_)
local macro_rules | `(tactic| walk_at "ev") => `(tactic| repeat (first | walk_at "ev1" | (dsimp only [List.set, List.nil_append])))
section
variable {w : World} {K : PySem.W.Frag} {Sok : List V → Prop}
/-! is_integer_cluster -/
def pre_is_integer_cluster : Pre := fun S ds mc P => ∃ i lo hi : Int, ds = [.int i, .int lo, .int hi] ∧ mc = [] ∧ lo ≤ i ∧ i ≤ hi ∧ P (.bool true) []
theorem pure_is_integer_cluster : Pure Sok K 3 N_is_integer_cluster (t_is_integer_cluster w K Sok) pre_is_integer_cluster := by
  rintro S _ _ P H U _ ⟨i, lo, hi, rfl, rfl, h1, h2, q⟩
  unfold t_is_integer_cluster
  show Sv _ _ [] [some (.int i), some (.int lo), some (.int hi)] _
  walk_at "ev"
  refine cd_isi (n := "int") (b := true) rfl (by decide +kernel) ?_
  refine ⟨_, rfl, ?_⟩
  rw [if_pos rfl]
  walk_at "ev"
  refine cd_isi (n := "int") (b := false) rfl (by decide +kernel) ?_
  refine ⟨_, rfl, ?_⟩
  refine ⟨_, rfl, ?_⟩
  rw [if_pos (show (!false) = true from rfl)]
  walk_at "ev"
  refine ⟨_, rfl, ite_yes h1 ?_⟩
  walk_at "ev"
  refine rt_nil ?_
  rw [decide_eq_true h2]
  exact q
/-! a cluster as it stands -/
structure CS where
  n : Nat
  f : Nat
  g : Nat
  c : Nat
  d : Nat
structure CS.Ok (s : CS) : Prop where
  n1 : 2 ≤ s.n
  n2 : s.n ≤ 60
  f1 : 1 ≤ s.f
  f2 : s.f ≤ s.n - 1
  g1 : 1 ≤ s.g
  g2 : s.g ≤ s.n
  d1 : s.d = min s.n (s.f + s.g)
  c1 : LL s.n s.d ∣ s.c
  c0 : 0 < s.c
  c2 : s.c < 2 ^ 7000
def flds (s : CS) (p q : Addr) : List (Str × D) := [("depth", .int s.d), ("n", .int s.n), ("failures", .int s.f), ("factor", .int s.g), ("count", .int s.c), ("dead", ob p), ("done", ob q)]
def dons (done : List (Int × Int)) : List D := done.map fun x => .tuple [.int x.1, .int x.2]
abbrev clu (K : PySem.W.Frag) (l dx p q : Addr) (s : CS) (dead : List Int) (done : List (Int × Int)) : M := [(l, .ins (cC_Cluster K) dx (flds s p q)), (p, .dK (mkD dead)), (q, .lst (dons done))]
theorem f_depth {s : CS} {p q : Addr} : (flds s p q).lookup ("depth" : Str) = some (PyData.int s.d) := by rfl
theorem f_n {s : CS} {p q : Addr} : (flds s p q).lookup ("n" : Str) = some (PyData.int s.n) := by rfl
theorem f_failures {s : CS} {p q : Addr} : (flds s p q).lookup ("failures" : Str) = some (PyData.int s.f) := by rfl
theorem f_factor {s : CS} {p q : Addr} : (flds s p q).lookup ("factor" : Str) = some (PyData.int s.g) := by rfl
theorem f_count {s : CS} {p q : Addr} : (flds s p q).lookup ("count" : Str) = some (PyData.int s.c) := by rfl
theorem f_dead {s : CS} {p q : Addr} : (flds s p q).lookup ("dead" : Str) = some (ob p) := by rfl
theorem f_done {s : CS} {p q : Addr} : (flds s p q).lookup ("done" : Str) = some (ob q) := by rfl
theorem f_no {s : CS} {p q : Addr} {f : Str} (h : f ∉ (["depth", "n", "failures", "factor", "count", "dead", "done"] : List Str)) : (flds s p q).lookup f = none := by
  unfold flds
  simp only [List.mem_cons, not_or, List.not_mem_nil, not_false_iff, and_true] at h
  obtain ⟨h1, h2, h3, h4, h5, h6, h7⟩ := h
  simp only [List.lookup_cons, beq_eq_false_iff_ne.mpr h1, beq_eq_false_iff_ne.mpr h2, beq_eq_false_iff_ne.mpr h3, beq_eq_false_iff_ne.mpr h4, beq_eq_false_iff_ne.mpr h5, beq_eq_false_iff_ne.mpr h6, beq_eq_false_iff_ne.mpr h7, List.lookup_nil]
/-! live -/
def pre_Cluster_live (K : PySem.W.Frag) : Pre := fun S ds mc P => ∃ l dx p q s dead done, ds = [ob l] ∧ mc = clu K l dx p q s dead done ∧ s.Ok ∧ P (.tuple (dts (outs s.n dead))) (clu K l dx p q s dead done)
theorem pure_Cluster_live : Pure Sok K 1 N_Cluster_live (t_Cluster_live w K Sok) (pre_Cluster_live K) := by
  rintro S _ _ P H U _ ⟨l, dx, p, q, s, dead, done, rfl, rfl, ok, qq⟩
  unfold t_Cluster_live
  show Sv _ _ (clu K l dx p q s dead done) [some (ob l), none] _
  have n2 := ok.n2
  walk_at "ev"
  refine ev_ofL (el_lc (own_name (by simp)) mono_name (ei_r1 ?_))
  walk_at "ev"
  refine ⟨l, 0, dx, _, _, rfl, rfl, f_n, ?_⟩
  walk_at "ev"
  refine ⟨_, rfl, by omega, by omega, by rw [rng_len, sizeLine_eq]; omega, fun i acc m' => m' = clu K l dx p q s dead done ∧ acc = dts (((rg s.n).take i).filter fun x => !decide (x ∈ dead)), ⟨rfl, rfl⟩, ?_, ?_⟩
  · rintro i x acc m' hx ⟨rfl, rfl⟩
    obtain ⟨hi, rfl⟩ := rng_get hx
    have hi : i < s.n := by omega
    refine gv_name ?_
    dsimp only [wipeD, List.set]
    refine et_B (ev_dnin ?_)
    walk_at "ev"
    refine ⟨l, 0, dx, _, _, rfl, rfl, f_dead, ?_⟩
    refine ⟨_, p, 1, dead, rfl, rfl, rfl, ?_⟩
    refine ⟨_, rfl, ?_⟩
    rw [Int.zero_add]
    refine ite_ndec (fun h => ?_) (fun h => ?_)
    · walk_at "ev"
      refine ⟨rfl, ?_⟩
      rw [filter_rg s.n i dead hi, if_neg h, dts, dts, List.map_append]
      rfl
    · refine ⟨rfl, ?_⟩
      rw [filter_rg s.n i dead hi, if_pos h, List.append_nil]
  · rintro acc m' ⟨rfl, rfl⟩
    rw [rng_len, show ((s.n : Int)).toNat = s.n by omega, List.take_of_length_le (by rw [rg_length]; omega)]
    walk_at "ev"
    exact rt_same qq
/-! len -/
def pre_Cluster_len (K : PySem.W.Frag) : Pre := fun S ds mc P => ∃ l dx p q s dead done, ds = [ob l] ∧ mc = clu K l dx p q s dead done ∧ s.Ok ∧ P (.int (outs s.n dead).length) (clu K l dx p q s dead done)
theorem pure_Cluster_len : Pure Sok K 1 N_Cluster_len (t_Cluster_len w K Sok (pre_Cluster_live K)) (pre_Cluster_len K) := by
  rintro S _ _ P H U _ ⟨l, dx, p, q, s, dead, done, rfl, rfl, ok, qq⟩
  unfold t_Cluster_len
  show Sv _ _ (clu K l dx p q s dead done) [some (ob l)] _
  walk_at "ev"
  refine ev_meth ?_
  walk_at "ev"
  refine ⟨l, 0, dx, _, rfl, rfl, f_no (by decide), ?_⟩
  walk_at "ev"
  refine ⟨clu K l dx p q s dead done, [], rfl, rfl, l, dx, p, q, s, dead, done, rfl, rfl, ok, ?_⟩
  dsimp only [List.cons_append, List.nil_append]
  walk_at "ev"
  rw [show (dts (outs s.n dead)).length = (outs s.n dead).length from List.length_map ..]
  exact rt_same qq
/-! lists of a cluster -/
def ord (s : CS) (x : Nat) : List Int := (walkP s.n s.c s.d [] x).1
def lvo (s : CS) (dead : List Int) (x : Nat) : List Int := (ord s x).filter fun y => decide (y ∈ outs s.n dead)
def own (s : CS) (dead : List Int) (x : Nat) : List Int := (lvo s dead x).take (min s.g (outs s.n dead).length)
structure DOk (s : CS) (dead : List Int) : Prop where
  nd : dead.Nodup
  rg : ∀ x ∈ dead, 0 ≤ x ∧ x < s.n
  le : dead.length ≤ s.f
theorem CS.Ok.dn {s : CS} (o : s.Ok) : s.d ≤ s.n := by rw [o.d1]; omega
theorem ord_ok {s : CS} (o : s.Ok) {x : Nat} (hx : x < s.c) : (ord s x).Nodup ∧ (∀ y ∈ ord s x, 0 ≤ y ∧ y < s.n) ∧ (ord s x).length = s.d := by
  obtain ⟨a1, a2, a3, a4, a5⟩ := walk_good o.c1 o.dn o.c0 s.d [] x (good_nil s.n) (by simp) (by rw [List.length_nil, rst_zero]; exact hx)
  rw [List.nil_append] at a5
  exact ⟨a5.nodup_iff.mp (asc_nodup a1.1), fun y hy => a1.2 y (a5.mem_iff.mpr hy), a4⟩
theorem dead_len {s : CS} {dead : List Int} (k : DOk s dead) : (outs s.n dead).length + dead.length = s.n := by
  have g : Good s.n (srt dead) := ⟨srt_asc k.nd, fun y hy => k.rg y (mem_srt.mp hy)⟩
  have h := outs_length g
  rw [srt_len] at h
  have e : outs s.n (srt dead) = outs s.n dead := by
    unfold outs
    congr 1
    funext y
    rw [decide_eq_decide.mpr (mem_srt (l := dead) (x := y))]
  rw [e] at h
  exact h
theorem nodup_sub_len {l k : List Int} (h : l.Nodup) (s : ∀ x ∈ l, x ∈ k) : l.length ≤ k.length := by
  induction l generalizing k with
  | nil => exact Nat.zero_le _
  | cons a l ih =>
    rw [List.nodup_cons] at h
    have ha := s a List.mem_cons_self
    have := ih (k := k.erase a) h.2 fun x hx => (List.mem_erase_of_ne (fun e => h.1 (by rw [← e]; exact hx))).mpr (s x (List.mem_cons_of_mem _ hx))
    rw [List.length_erase_of_mem ha] at this
    have := List.length_pos_of_mem ha
    simp only [List.length_cons]
    omega
theorem lvo_len {s : CS} (o : s.Ok) {dead : List Int} (k : DOk s dead) {x : Nat} (hx : x < s.c) : s.d - dead.length ≤ (lvo s dead x).length := by
  obtain ⟨h1, h2, h3⟩ := ord_ok o hx
  have hp := len_parts (fun y => decide (y ∈ outs s.n dead)) (ord s x)
  have h4 : ((ord s x).filter fun y => !decide (y ∈ outs s.n dead)).length ≤ dead.length := by
    refine nodup_sub_len (h1.filter _) fun y hy => ?_
    rw [List.mem_filter] at hy
    have hr := h2 y hy.1
    by_cases c : y ∈ dead
    · exact c
    · have : y ∈ outs s.n dead := outs_mem.mpr ⟨hr, c⟩
      simp [this] at hy
  unfold lvo
  omega
theorem own_ok {s : CS} (o : s.Ok) {dead : List Int} (k : DOk s dead) {x : Nat} (hx : x < s.c) : min s.g (outs s.n dead).length ≤ (lvo s dead x).length := by
  have h1 := lvo_len o k hx
  have h2 := dead_len k
  have h3 := k.le
  have h4 := o.d1
  omega
theorem lvo_nd {s : CS} (o : s.Ok) {dead : List Int} {x : Nat} (hx : x < s.c) : (lvo s dead x).Nodup := (ord_ok o hx).1.filter _
theorem lvo_le {s : CS} (o : s.Ok) {dead : List Int} {x : Nat} (hx : x < s.c) : (lvo s dead x).length ≤ 60 := by
  have := (ord_ok o hx).2.2
  have h1 : (lvo s dead x).length ≤ (ord s x).length := List.length_filter_le _ _
  have := o.dn
  have := o.n2
  omega
/-! holders, live_in, successor -/
def pre_holders : Pre := fun S ds mc P => ∃ (O L : List Int) (g : Nat), ds = [.tuple (dts O), .tuple (dts L), .int g] ∧ mc = [] ∧ O.length ≤ 1000 ∧ min g L.length ≤ (O.filter fun y => decide (y ∈ L)).length ∧ P (.tuple (dts ((O.filter fun y => decide (y ∈ L)).take (min g L.length)))) []
theorem cut_take {α : Type} (xs : List α) {k : Int} (h0 : 0 ≤ k) : DL.cutD xs none (some k) = xs.take k.toNat := by
  unfold DL.cutD
  have e1 : HT.sIx xs.length 0 none = 0 := by unfold HT.sIx; simp
  have e2 : HT.sIx xs.length xs.length (some k) = min k.toNat xs.length := by
    unfold HT.sIx
    have h1 : ¬ k < 0 := by omega
    simp [h1]
  rw [e1, e2, List.drop_zero, Nat.sub_zero]
  rcases Nat.le_total k.toNat xs.length with c | c
  · rw [Nat.min_eq_left c]
  · rw [Nat.min_eq_right c, List.take_of_length_le c, List.take_of_length_le (Nat.le_refl _)]
theorem filter_step (O L : List Int) (i : Nat) (x : Int) (h : O[i]? = some x) : ((O.take (i + 1)).filter fun y => decide (y ∈ L)) = ((O.take i).filter fun y => decide (y ∈ L)) ++ (if x ∈ L then [x] else []) := by
  rw [List.take_add_one, h, List.filter_append]
  congr 1
  by_cases c : x ∈ L <;> simp [c]
theorem pure_holders : Pure Sok K 3 N_holders (t_holders w K Sok) pre_holders := by
  rintro S _ _ P H U _ ⟨O, L, g, rfl, rfl, h1, h2, qq⟩
  unfold t_holders
  show Sv _ _ [] [some (.tuple (dts O)), some (.tuple (dts L)), some (.int g), none, none, none] _
  have hO : (dts O).length = O.length := List.length_map ..
  walk_at "ev"
  refine ev_ofL (el_lc (own_name (by simp)) mono_name (ei_T ?_))
  walk_at "ev"
  refine ⟨_, rfl, by rw [hO, sizeLine_eq]; omega, fun i acc m' => m' = [] ∧ acc = dts ((O.take i).filter fun x => decide (x ∈ L)), ⟨rfl, rfl⟩, ?_, ?_⟩
  · rintro i x acc m' hx ⟨rfl, rfl⟩
    obtain ⟨y, hy, rfl⟩ : ∃ y, O[i]? = some y ∧ x = .int y := by
      rw [List.getElem?_map] at hx
      cases e : O[i]? with
      | none => rw [e] at hx; cases hx
      | some y => rw [e] at hx; exact ⟨y, rfl, (Option.some.inj hx).symm⟩
    refine gv_name ?_
    dsimp only [wipeD, List.set]
    walk_at "ev"
    refine od_inT (neg := false) ?_
    refine ⟨_, rfl, ?_⟩
    rw [if_neg Bool.false_ne_true]
    refine ite_dec (fun h => ?_) (fun h => ?_)
    · walk_at "ev"
      refine ⟨rfl, ?_⟩
      rw [filter_step O L i y hy, if_pos h, dts, dts, List.map_append]
      rfl
    · refine ⟨rfl, ?_⟩
      rw [filter_step O L i y hy, if_neg h, List.append_nil]
  · rintro acc m' ⟨rfl, rfl⟩
    rw [hO, List.take_of_length_le (Nat.le_refl _)]
    walk_at "ev"
    have hL : (dts L).length = L.length := List.length_map ..
    have hF : (dts (O.filter fun x => decide (x ∈ L))).length = (O.filter fun x => decide (x ∈ L)).length := List.length_map ..
    refine ⟨_, rfl, ite_no (by omega) ?_⟩
    walk_at "ev"
    refine ⟨_, rfl, sd_L ?_⟩
    rw [cut_take _ (by omega), show (min (g : Int) ((dts L).length : Nat)).toNat = min g L.length by omega]
    walk_at "ev"
    refine rt_nil ?_
    rw [show (dts (O.filter fun x => decide (x ∈ L))).take (min g L.length) = dts ((O.filter fun x => decide (x ∈ L)).take (min g L.length)) from (List.map_take ..).symm]
    exact qq
end
end Tx

set_option Elab.async false
set_option linter.all false
set_option maxRecDepth 100000
set_option maxHeartbeats 2000000
set_option exponentiation.threshold 9000
namespace Tx
open PySem PySem.Spec PyProof.Rows L2 DL EM
/-! ### tactics -/
local macro_rules | `(tactic| walk_at "ev1") => `(tactic| first
  | with_reducible refine sv_seq ?_
  | with_reducible refine sv_ret ?_
  | with_reducible refine sv_retN ?_
  | with_reducible refine sv_asgSub ?_
  | with_reducible refine sv_asg ?_
  | with_reducible refine sv_drop ?_
  | with_reducible refine sv_if ?_
  | with_reducible refine sv_next ?_
  | with_reducible refine gv_name ?_
  | with_reducible refine ev_int ?_
  | with_reducible refine ev_bl ?_
  | with_reducible refine ev_str ?_
  | with_reducible refine ev_non ?_
  | with_reducible refine ev_ty ?_
  | with_reducible refine ev_op ?_
  | with_reducible refine ev_un ?_
  | with_reducible refine ev_if ?_
  | with_reducible refine ev_andV ?_
  | with_reducible refine ev_orV ?_
  | with_reducible refine ev_notV ?_
  | with_reducible refine ev_chain ?_
  | with_reducible refine ev_ofL (el_sortedSet ?_)
  | with_reducible refine ev_big ?_
  | with_reducible refine ev_cb ?_
  | with_reducible refine ev_fld ?_
  | with_reducible refine ev_tup ?_
  | with_reducible refine ev_sl ?_
  | with_reducible refine et_test ?_
  | with_reducible refine et_B ?_
  | with_reducible refine et_and ?_
  | with_reducible refine et_or ?_
  | with_reducible refine et_not ?_
  | with_reducible refine et_yes ?_
  | with_reducible refine ea_nil ?_
  | with_reducible refine ea_cons ?_
  | with_reducible refine eo_none ?_
  | with_reducible refine eo_some ?_
  | refine ev_var rfl ?_
  | with_reducible refine od_add ?_
  | with_reducible refine od_sub ?_
  | with_reducible refine od_lt ?_
  | with_reducible refine od_le ?_
  | with_reducible refine od_gt ?_
  | with_reducible refine od_ge ?_
  | with_reducible refine od_eqI ?_
  | with_reducible refine od_neI ?_
  | with_reducible refine cd_lenT ?_
  | with_reducible refine cd_lenL ?_
  | with_reducible refine cd_abs ?_
  | with_reducible refine cd_max2 ?_
  | with_reducible refine cd_min2 ?_
  | with_reducible refine cd_intB ?_
  | with_reducible refine cd_tupL ?_
  | with_reducible refine iteT ?_
  | with_reducible refine iteF ?_)
local macro_rules | `(tactic| walk_at "ev") => `(tactic| repeat (first | walk_at "ev1" | (dsimp only [List.set, List.nil_append])))
section
variable {w : World} {K : PySem.W.Frag} {Sok : List V → Prop}
/-! is_live, check_failure -/
def pre_Cluster_is_live (K : PySem.W.Frag) : Pre := fun S ds mc P => ∃ l dx p q s dead done, ∃ x : Int, ds = [ob l, .int x] ∧ mc = clu K l dx p q s dead done ∧ s.Ok ∧ 0 ≤ x ∧ x < s.n ∧ x ∉ dead ∧ P (.bool true) (clu K l dx p q s dead done)
theorem pure_Cluster_is_live : Pure Sok K 2 N_Cluster_is_live (t_Cluster_is_live w K Sok pre_is_integer_cluster) (pre_Cluster_is_live K) := by
  rintro S _ _ P H U _ ⟨l, dx, p, q, s, dead, done, x, rfl, rfl, ok, x0, x1, hx, qq⟩
  unfold t_Cluster_is_live
  show Sv _ _ (clu K l dx p q s dead done) [some (ob l), some (.int x)] _
  walk_at "ev"
  refine ev_call ?_
  walk_at "ev"
  refine ⟨l, 0, dx, _, _, rfl, rfl, f_n, ?_⟩
  walk_at "ev"
  refine ⟨rfl, x, _, _, rfl, rfl, by omega, by omega, ?_⟩
  refine ⟨_, rfl, ?_⟩
  rw [if_pos rfl]
  refine ev_dnin ?_
  walk_at "ev"
  refine ⟨l, 0, dx, _, _, rfl, rfl, f_dead, ?_⟩
  refine ⟨x, p, 1, dead, rfl, rfl, rfl, ?_⟩
  rw [decide_eq_false hx]
  exact rt_same qq
def pre_Cluster_check_failure (K : PySem.W.Frag) : Pre := fun S ds mc P => ∃ l dx p q s dead done, ∃ x : Int, ds = [ob l, .int x] ∧ mc = clu K l dx p q s dead done ∧ s.Ok ∧ 0 ≤ x ∧ x < s.n ∧ x ∉ dead ∧ dead.length < s.f ∧ P .none (clu K l dx p q s dead done)
theorem pure_Cluster_check_failure : Pure Sok K 2 N_Cluster_check_failure (t_Cluster_check_failure w K Sok (pre_Cluster_is_live K)) (pre_Cluster_check_failure K) := by
  rintro S _ _ P H U _ ⟨l, dx, p, q, s, dead, done, x, rfl, rfl, ok, x0, x1, hx, hd, qq⟩
  unfold t_Cluster_check_failure
  show Sv _ _ (clu K l dx p q s dead done) [some (ob l), some (.int x)] _
  walk_at "ev"
  refine ev_meth ?_
  walk_at "ev"
  refine ⟨l, 0, dx, _, rfl, rfl, f_no (by decide), ?_⟩
  walk_at "ev"
  refine ⟨clu K l dx p q s dead done, [], rfl, rfl, l, dx, p, q, s, dead, done, x, rfl, rfl, ok, x0, x1, hx, ?_⟩
  dsimp only [List.cons_append, List.nil_append]
  refine ⟨_, rfl, ?_⟩
  refine iteF ?_
  walk_at "ev"
  refine ⟨l, 0, dx, _, _, rfl, rfl, f_dead, ?_⟩
  walk_at "ev"
  refine cd_lenD (n := 1) (ks := dead) rfl ?_
  walk_at "ev"
  refine ⟨l, 0, dx, _, _, rfl, rfl, f_failures, ?_⟩
  walk_at "ev"
  refine ⟨_, rfl, ite_no (by omega) ?_⟩
  walk_at "ev"
  exact rt_same qq
/-! order_of, owners -/
def pre_Cluster_order_of (K : PySem.W.Frag) : Pre := fun S ds mc P => ∃ l dx p q s dead done, ∃ x : Nat, ds = [ob l, .int x] ∧ mc = clu K l dx p q s dead done ∧ s.Ok ∧ x < s.c ∧ P (.tuple (dts (ord s x))) (clu K l dx p q s dead done)
theorem pure_Cluster_order_of : Pure Sok K 2 N_Cluster_order_of (t_Cluster_order_of w K Sok pre_is_integer_cluster pre_list_at) (pre_Cluster_order_of K) := by
  rintro S _ _ P H U _ ⟨l, dx, p, q, s, dead, done, x, rfl, rfl, ok, hx, qq⟩
  unfold t_Cluster_order_of
  show Sv _ _ (clu K l dx p q s dead done) [some (ob l), some (.int x)] _
  walk_at "ev"
  refine ev_call ?_
  walk_at "ev"
  refine ⟨l, 0, dx, _, _, rfl, rfl, f_count, ?_⟩
  walk_at "ev"
  refine ⟨rfl, (x : Int), _, _, rfl, rfl, by omega, by omega, ?_⟩
  refine ⟨_, rfl, ?_⟩
  refine iteF ?_
  walk_at "ev"
  refine ev_call ?_
  walk_at "ev"
  refine ⟨l, 0, dx, _, _, rfl, rfl, f_n, ?_⟩
  walk_at "ev"
  refine ⟨l, 0, dx, _, _, rfl, rfl, f_depth, ?_⟩
  walk_at "ev"
  refine ⟨l, 0, dx, _, _, rfl, rfl, f_count, ?_⟩
  walk_at "ev"
  have h1 := ok.n1
  have h3 := ok.c2
  refine ⟨rfl, s.n, s.d, s.c, x, rfl, rfl, by omega, ok.n2, ok.dn, ok.c1, ok.c0, Nat.lt_trans h3 (Nat.pow_lt_pow_right (by decide) (by decide)), hx, ?_⟩
  exact rt_same qq
def pre_Cluster_owners (K : PySem.W.Frag) : Pre := fun S ds mc P => ∃ l dx p q s dead done, ∃ x : Nat, ds = [ob l, .int x] ∧ mc = clu K l dx p q s dead done ∧ s.Ok ∧ DOk s dead ∧ x < s.c ∧ P (.tuple (dts (own s dead x))) (clu K l dx p q s dead done)
theorem pure_Cluster_owners : Pure Sok K 2 N_Cluster_owners (t_Cluster_owners w K Sok (pre_Cluster_live K) (pre_Cluster_order_of K) pre_holders) (pre_Cluster_owners K) := by
  rintro S _ _ P H U _ ⟨l, dx, p, q, s, dead, done, x, rfl, rfl, ok, dk, hx, qq⟩
  unfold t_Cluster_owners
  show Sv _ _ (clu K l dx p q s dead done) [some (ob l), some (.int x)] _
  have h2 := ok.n2
  have h4 := ok.dn
  walk_at "ev"
  refine ev_call ?_
  walk_at "ev"
  refine ev_meth ?_
  walk_at "ev"
  refine ⟨l, 0, dx, _, rfl, rfl, f_no (by decide), ?_⟩
  walk_at "ev"
  refine ⟨clu K l dx p q s dead done, [], rfl, rfl, l, dx, p, q, s, dead, done, x, rfl, rfl, ok, hx, ?_⟩
  dsimp only [List.cons_append, List.nil_append]
  walk_at "ev"
  refine ev_meth ?_
  walk_at "ev"
  refine ⟨l, 0, dx, _, rfl, rfl, f_no (by decide), ?_⟩
  walk_at "ev"
  refine ⟨clu K l dx p q s dead done, [], rfl, rfl, l, dx, p, q, s, dead, done, rfl, rfl, ok, ?_⟩
  dsimp only [List.cons_append, List.nil_append]
  walk_at "ev"
  refine ⟨l, 0, dx, _, _, rfl, rfl, f_factor, ?_⟩
  walk_at "ev"
  exact ⟨rfl, ord s x, outs s.n dead, s.g, rfl, rfl, by rw [(ord_ok ok hx).2.2]; omega, own_ok ok dk hx, rt_same qq⟩
/-! load -/
def lod (s : CS) (dead : List Int) : Nat := s.c * min s.g (outs s.n dead).length / (outs s.n dead).length
def pre_Cluster_load (K : PySem.W.Frag) : Pre := fun S ds mc P => ∃ l dx p q s dead done, ∃ x : Int, ds = [ob l, .int x] ∧ mc = clu K l dx p q s dead done ∧ s.Ok ∧ DOk s dead ∧ 0 ≤ x ∧ x < s.n ∧ x ∉ dead ∧ P (.int (lod s dead : Nat)) (clu K l dx p q s dead done)
theorem pure_Cluster_load : Pure Sok K 2 N_Cluster_load (t_Cluster_load w K Sok (pre_Cluster_is_live K) (pre_Cluster_live K)) (pre_Cluster_load K) := by
  rintro S _ _ P H U _ ⟨l, dx, p, q, s, dead, done, x, rfl, rfl, ok, dk, x0, x1, hx, qq⟩
  unfold t_Cluster_load
  show Sv _ _ (clu K l dx p q s dead done) [some (ob l), some (.int x), none] _
  have h2 := ok.n2
  have h3 := dead_len dk
  have h5 := ok.c2
  have h6 := ok.g2
  have h7 : 0 < (outs s.n dead).length := List.length_pos_of_mem (outs_mem.mpr ⟨⟨x0, x1⟩, hx⟩)
  walk_at "ev"
  refine ev_meth ?_
  walk_at "ev"
  refine ⟨l, 0, dx, _, rfl, rfl, f_no (by decide), ?_⟩
  walk_at "ev"
  refine ⟨clu K l dx p q s dead done, [], rfl, rfl, l, dx, p, q, s, dead, done, x, rfl, rfl, ok, x0, x1, hx, ?_⟩
  dsimp only [List.cons_append, List.nil_append]
  refine ⟨_, rfl, ?_⟩
  refine iteF ?_
  walk_at "ev"
  refine ev_meth ?_
  walk_at "ev"
  refine ⟨l, 0, dx, _, rfl, rfl, f_no (by decide), ?_⟩
  walk_at "ev"
  refine ⟨clu K l dx p q s dead done, [], rfl, rfl, l, dx, p, q, s, dead, done, rfl, rfl, ok, ?_⟩
  dsimp only [List.cons_append, List.nil_append]
  walk_at "ev"
  refine ⟨l, 0, dx, _, _, rfl, rfl, f_count, ?_⟩
  walk_at "ev"
  refine ⟨l, 0, dx, _, _, rfl, rfl, f_factor, ?_⟩
  walk_at "ev"
  rw [show (dts (outs s.n dead)).length = (outs s.n dead).length from List.length_map ..]
  refine od_mul (wide_mul (a := 7000) (b := 10) (by rw [Int.natAbs_natCast]; exact h5) (by omega) (by decide) (by decide) (by decide)) ?_
  walk_at "ev"
  refine od_fdiv (wide_div (b := 10) (by omega) (by omega) (by decide) (by decide)) ?_
  have e : (s.c : Int) * min (s.g : Int) ((outs s.n dead).length : Nat) / ((outs s.n dead).length : Nat) = ((lod s dead : Nat) : Int) := by
    unfold lod
    rw [Int.natCast_ediv, Int.natCast_mul, show ((min s.g (outs s.n dead).length : Nat) : Int) = min (s.g : Int) ((outs s.n dead).length : Nat) by omega]
  rw [e]
  exact rt_same qq
end
end Tx

set_option Elab.async false
set_option linter.all false
set_option maxRecDepth 100000
set_option maxHeartbeats 2000000
set_option exponentiation.threshold 9000
namespace Tx
open PySem PySem.Spec PyProof.Rows L2 DL EM
/-! ### tactics -/
local macro_rules | `(tactic| walk_at "ev1") => `(tactic| first
  | with_reducible refine sv_seq ?_
  | with_reducible refine sv_ret ?_
  | with_reducible refine sv_retN ?_
  | with_reducible refine sv_asgSub ?_
  | with_reducible refine sv_asg ?_
  | with_reducible refine sv_drop ?_
  | with_reducible refine sv_if ?_
  | with_reducible refine sv_next ?_
  | with_reducible refine gv_name ?_
  | with_reducible refine ev_int ?_
  | with_reducible refine ev_bl ?_
  | with_reducible refine ev_str ?_
  | with_reducible refine ev_non ?_
  | with_reducible refine ev_ty ?_
  | with_reducible refine ev_op ?_
  | with_reducible refine ev_un ?_
  | with_reducible refine ev_if ?_
  | with_reducible refine ev_andV ?_
  | with_reducible refine ev_orV ?_
  | with_reducible refine ev_notV ?_
  | with_reducible refine ev_chain ?_
  | with_reducible refine ev_ofL (el_sortedSet ?_)
  | with_reducible refine ev_big ?_
  | with_reducible refine ev_cb ?_
  | with_reducible refine ev_fld ?_
  | with_reducible refine ev_tup ?_
  | with_reducible refine ev_sl ?_
  | with_reducible refine et_test ?_
  | with_reducible refine et_B ?_
  | with_reducible refine et_and ?_
  | with_reducible refine et_or ?_
  | with_reducible refine et_not ?_
  | with_reducible refine et_yes ?_
  | with_reducible refine ea_nil ?_
  | with_reducible refine ea_cons ?_
  | with_reducible refine eo_none ?_
  | with_reducible refine eo_some ?_
  | refine ev_var rfl ?_
  | with_reducible refine od_add ?_
  | with_reducible refine od_sub ?_
  | with_reducible refine od_lt ?_
  | with_reducible refine od_le ?_
  | with_reducible refine od_gt ?_
  | with_reducible refine od_ge ?_
  | with_reducible refine od_eqI ?_
  | with_reducible refine od_neI ?_
  | with_reducible refine cd_lenT ?_
  | with_reducible refine cd_lenL ?_
  | with_reducible refine cd_abs ?_
  | with_reducible refine cd_max2 ?_
  | with_reducible refine cd_min2 ?_
  | with_reducible refine cd_intB ?_
  | with_reducible refine cd_tupL ?_
  | with_reducible refine iteT ?_
  | with_reducible refine iteF ?_)
local macro_rules | `(tactic| walk_at "ev") => `(tactic| repeat (first | walk_at "ev1" | (dsimp only [List.set, List.nil_append])))
section
variable {w : World} {K : PySem.W.Frag} {Sok : List V → Prop}
/-! live_in, successor -/
def pre_live_in : Pre := fun S ds mc P => ∃ (O L : List Int), ds = [.tuple (dts O), .tuple (dts L)] ∧ mc = [] ∧ O.length ≤ 1000 ∧ P (.list (dts (O.filter fun y => decide (y ∈ L)))) []
theorem pure_live_in : Pure Sok K 2 N_live_in (t_live_in w K Sok) pre_live_in := by
  rintro S _ _ P H U _ ⟨O, L, rfl, rfl, h1, qq⟩
  unfold t_live_in
  show Sv _ _ [] [some (.tuple (dts O)), some (.tuple (dts L)), none] _
  have hO : (dts O).length = O.length := List.length_map ..
  walk_at "ev"
  refine ev_ofL (el_lc (own_name (by simp)) mono_name (ei_T ?_))
  walk_at "ev"
  refine ⟨_, rfl, by rw [hO, sizeLine_eq]; omega, fun i acc m' => m' = [] ∧ acc = dts ((O.take i).filter fun x => decide (x ∈ L)), ⟨rfl, rfl⟩, ?_, ?_⟩
  · rintro i x acc m' hx ⟨rfl, rfl⟩
    obtain ⟨y, hy, rfl⟩ : ∃ y, O[i]? = some y ∧ x = .int y := by
      rw [List.getElem?_map] at hx
      cases e : O[i]? with
      | none => rw [e] at hx; cases hx
      | some y => rw [e] at hx; exact ⟨y, rfl, (Option.some.inj hx).symm⟩
    refine gv_name ?_
    dsimp only [wipeD, List.set]
    walk_at "ev"
    refine od_inT (neg := false) ?_
    refine ⟨_, rfl, ?_⟩
    rw [if_neg Bool.false_ne_true]
    refine ite_dec (fun h => ?_) (fun h => ?_)
    · walk_at "ev"
      refine ⟨rfl, ?_⟩
      rw [filter_step O L i y hy, if_pos h, dts, dts, List.map_append]
      rfl
    · refine ⟨rfl, ?_⟩
      rw [filter_step O L i y hy, if_neg h, List.append_nil]
  · rintro acc m' ⟨rfl, rfl⟩
    rw [hO, List.take_of_length_le (Nat.le_refl _)]
    exact rt_nil qq
/-- who receives a copy -/
def nxt (F : List Int) (g : Nat) (x : Int) : D := if x ∈ F.take g then .int (F.getD g 0) else .none
def pre_successor_failures : Pre := fun S ds mc P => ∃ (O L : List Int) (g : Nat) (x : Int), ds = [.tuple (dts O), .tuple (dts L), .int g, .int x] ∧ mc = [] ∧ O.length ≤ 1000 ∧ g < (O.filter fun y => decide (y ∈ L)).length ∧ P (nxt (O.filter fun y => decide (y ∈ L)) g x) []
theorem pure_successor_failures : Pure Sok K 4 N_successor_failures (t_successor_failures w K Sok pre_live_in) pre_successor_failures := by
  rintro S _ _ P H U _ ⟨O, L, g, x, rfl, rfl, h1, hg, qq⟩
  unfold t_successor_failures
  show Sv _ _ [] [some (.tuple (dts O)), some (.tuple (dts L)), some (.int g), some (.int x), none] _
  walk_at "ev"
  refine ev_call ?_
  walk_at "ev"
  refine ⟨rfl, O, L, rfl, rfl, h1, ?_⟩
  generalize (O.filter fun y => decide (y ∈ L)) = F at hg qq ⊢
  have hF : (dts F).length = F.length := List.length_map ..
  walk_at "ev"
  refine ⟨_, rfl, ite_no (by omega) ?_⟩
  walk_at "ev"
  refine ⟨_, rfl, sd_L ?_⟩
  rw [cut_take _ (by omega), show ((g : Int)).toNat = g by omega, show (dts F).take g = dts (F.take g) from (List.map_take ..).symm]
  refine od_inL (neg := false) ?_
  refine ⟨_, rfl, ?_⟩
  rw [if_neg Bool.false_ne_true]
  unfold nxt at qq
  refine ite_dec (fun h => ?_) (fun h => ?_)
  · rw [if_pos h] at qq
    walk_at "ev"
    refine od_ixL (d := .int (F.getD g 0)) ?_ (rt_nil qq)
    refine atI_dts (x := F.getD g 0) ?_
    rw [List.getD_eq_getElem?_getD, List.getElem?_eq_getElem hg]
    rfl
  · rw [if_neg h] at qq
    walk_at "ev"
    exact rt_nil qq
def pre_Cluster_successor (K : PySem.W.Frag) : Pre := fun S ds mc P => ∃ l dx p q s dead done, ∃ (x : Nat) (y : Int), ds = [ob l, .int x, .int y] ∧ mc = clu K l dx p q s dead done ∧ s.Ok ∧ DOk s dead ∧ x < s.c ∧ 0 ≤ y ∧ y < s.n ∧ y ∉ dead ∧ dead.length < s.f ∧ s.g < (outs s.n dead).length ∧ P (nxt (lvo s dead x) s.g y) (clu K l dx p q s dead done)
theorem lvo_gt {s : CS} (o : s.Ok) {dead : List Int} (k : DOk s dead) {x : Nat} (hx : x < s.c) (hd : dead.length < s.f) (hg : s.g < (outs s.n dead).length) : s.g < (lvo s dead x).length := by
  have h1 := lvo_len o k hx
  have h2 := dead_len k
  have h4 := o.d1
  omega
theorem pure_Cluster_successor : Pure Sok K 3 N_Cluster_successor (t_Cluster_successor w K Sok (pre_Cluster_order_of K) (pre_Cluster_check_failure K) (pre_Cluster_live K) pre_successor_failures) (pre_Cluster_successor K) := by
  rintro S _ _ P H U _ ⟨l, dx, p, q, s, dead, done, x, y, rfl, rfl, ok, dk, hx, y0, y1, hy, hd, hg, qq⟩
  unfold t_Cluster_successor
  show Sv _ _ (clu K l dx p q s dead done) [some (ob l), some (.int x), some (.int y), none, none] _
  have h2 := ok.n2
  have h4 := ok.dn
  walk_at "ev"
  refine ev_meth ?_
  walk_at "ev"
  refine ⟨l, 0, dx, _, rfl, rfl, f_no (by decide), ?_⟩
  walk_at "ev"
  refine ⟨clu K l dx p q s dead done, [], rfl, rfl, l, dx, p, q, s, dead, done, x, rfl, rfl, ok, hx, ?_⟩
  dsimp only [List.cons_append, List.nil_append]
  walk_at "ev"
  refine ev_meth ?_
  walk_at "ev"
  refine ⟨l, 0, dx, _, rfl, rfl, f_no (by decide), ?_⟩
  walk_at "ev"
  refine ⟨clu K l dx p q s dead done, [], rfl, rfl, l, dx, p, q, s, dead, done, y, rfl, rfl, ok, y0, y1, hy, hd, ?_⟩
  dsimp only [List.cons_append, List.nil_append]
  walk_at "ev"
  refine ev_meth ?_
  walk_at "ev"
  refine ⟨l, 0, dx, _, rfl, rfl, f_no (by decide), ?_⟩
  walk_at "ev"
  refine ⟨clu K l dx p q s dead done, [], rfl, rfl, l, dx, p, q, s, dead, done, rfl, rfl, ok, ?_⟩
  dsimp only [List.cons_append, List.nil_append]
  walk_at "ev"
  refine ⟨l, 0, dx, _, _, rfl, rfl, f_factor, ?_⟩
  walk_at "ev"
  rw [show (dts (outs s.n dead)).length = (outs s.n dead).length from List.length_map ..]
  refine ⟨_, rfl, ite_yes (by omega) ?_⟩
  walk_at "ev"
  refine ev_call ?_
  walk_at "ev"
  refine ⟨l, 0, dx, _, _, rfl, rfl, f_factor, ?_⟩
  walk_at "ev"
  exact ⟨rfl, ord s x, outs s.n dead, s.g, y, rfl, rfl, by rw [(ord_ok ok hx).2.2]; omega, lvo_gt ok dk hx hd hg, rt_same qq⟩
/-! fail, recover -/
theorem dons_app (done : List (Int × Int)) (x y : Int) : dons (done ++ [(x, y)]) = dons done ++ [.tuple [.int x, .int y]] := List.map_append ..
def mny (s : CS) (dead : List Int) : Nat := if s.g < (outs s.n dead).length then lod s dead else 0
def pre_Cluster_fail (K : PySem.W.Frag) : Pre := fun S ds mc P => ∃ l dx p q s dead done, ∃ x : Int, ds = [ob l, .int x] ∧ mc = clu K l dx p q s dead done ∧ s.Ok ∧ DOk s dead ∧ 0 ≤ x ∧ x < s.n ∧ x ∉ dead ∧ dead.length < s.f ∧ done.length ≤ 1000 ∧ P (.int (mny s dead : Nat)) (clu K l dx p q s (dead ++ [x]) (done ++ [(x, ((mny s dead : Nat) : Int))]))
theorem pure_Cluster_fail : Pure Sok K 2 N_Cluster_fail (t_Cluster_fail w K Sok (pre_Cluster_check_failure K) (pre_Cluster_live K) (pre_Cluster_load K)) (pre_Cluster_fail K) := by
  rintro S _ _ P H U _ ⟨l, dx, p, q, s, dead, done, x, rfl, rfl, ok, dk, x0, x1, hx, hd, hdn, qq⟩
  unfold t_Cluster_fail
  show Sv _ _ (clu K l dx p q s dead done) [some (ob l), some (.int x), none] _
  have h2 := ok.n2
  have h3 := ok.f2
  refine sv_seq (sv_drop ?_)
  refine ev_meth ?_
  walk_at "ev"
  refine ⟨l, 0, dx, _, rfl, rfl, f_no (by decide), ?_⟩
  walk_at "ev"
  refine ⟨clu K l dx p q s dead done, [], rfl, rfl, l, dx, p, q, s, dead, done, x, rfl, rfl, ok, x0, x1, hx, hd, ?_⟩
  dsimp only [List.cons_append, List.nil_append]
  refine sv_seq (sv_asg (Ev.imp (P' := fun d m' => d = .int (mny s dead : Nat) ∧ m' = clu K l dx p q s dead done) ?_ ?_))
  · walk_at "ev"
    refine ev_meth ?_
    walk_at "ev"
    refine ⟨l, 0, dx, _, rfl, rfl, f_no (by decide), ?_⟩
    walk_at "ev"
    refine ⟨clu K l dx p q s dead done, [], rfl, rfl, l, dx, p, q, s, dead, done, rfl, rfl, ok, ?_⟩
    dsimp only [List.cons_append, List.nil_append]
    walk_at "ev"
    refine ⟨l, 0, dx, _, _, rfl, rfl, f_factor, ?_⟩
    walk_at "ev"
    rw [show (dts (outs s.n dead)).length = (outs s.n dead).length from List.length_map ..]
    unfold mny
    refine ⟨_, rfl, ite_dec (fun h => ?_) (fun h => ?_)⟩
    · rw [if_pos (by omega)]
      refine ev_meth ?_
      walk_at "ev"
      refine ⟨l, 0, dx, _, rfl, rfl, f_no (by decide), ?_⟩
      walk_at "ev"
      exact ⟨clu K l dx p q s dead done, [], rfl, rfl, l, dx, p, q, s, dead, done, x, rfl, rfl, ok, dk, x0, x1, hx, rfl, rfl⟩
    · rw [if_neg (by omega)]
      walk_at "ev"
      exact ⟨rfl, rfl⟩
  rintro _ _ ⟨rfl, rfl⟩
  refine gv_name ?_
  refine sv_seq (sv_asgSubD ?_)
  walk_at "ev"
  refine ⟨l, 0, dx, _, _, rfl, rfl, f_dead, ?_⟩
  refine ⟨p, rfl, ?_⟩
  walk_at "ev"
  refine ⟨x, 1, dead, rfl, rfl, rfl, hx, by rw [sizeLine_eq]; have := dk.le; omega, ?_⟩
  dsimp only [List.set]
  walk_at "ev"
  refine ev_bm ?_
  walk_at "ev"
  refine ⟨l, 0, dx, _, _, rfl, rfl, f_done, ?_⟩
  refine ⟨ty_M (n := 2) rfl, ?_⟩
  walk_at "ev"
  refine ⟨by rw [sizeLine_eq]; show 2 ≤ _; omega, ?_⟩
  walk_at "ev"
  refine md_append (n := 2) rfl (by rw [show (dons done).length = done.length from List.length_map .., sizeLine_eq]; omega) ?_
  dsimp only [List.set]
  rw [← dons_app]
  walk_at "ev"
  exact rt_keys rfl qq
def wo (dead : List Int) (x : Int) : List Int := dead.filter fun k => !decide (k = x)
def pre_Cluster_recover (K : PySem.W.Frag) : Pre := fun S ds mc P => ∃ l dx p q s dead done, ∃ x : Int, ds = [ob l, .int x] ∧ mc = clu K l dx p q s dead done ∧ s.Ok ∧ DOk s dead ∧ x ∈ dead ∧ done.length ≤ 1000 ∧ P (.int (lod s (wo dead x) : Nat)) (clu K l dx p q s (wo dead x) (done ++ [(x, ((lod s (wo dead x) : Nat) : Int))]))
theorem wo_ok {s : CS} {dead : List Int} (k : DOk s dead) (x : Int) : DOk s (wo dead x) ∧ x ∉ wo dead x :=
  ⟨⟨k.nd.filter _, fun y hy => k.rg y (List.mem_filter.mp hy).1, Nat.le_trans (List.length_filter_le _ _) k.le⟩, fun h => by
    have := (List.mem_filter.mp h).2
    simp at this⟩
theorem pure_Cluster_recover : Pure Sok K 2 N_Cluster_recover (t_Cluster_recover w K Sok pre_is_integer_cluster (pre_Cluster_load K)) (pre_Cluster_recover K) := by
  rintro S _ _ P H U _ ⟨l, dx, p, q, s, dead, done, x, rfl, rfl, ok, dk, hx, hdn, qq⟩
  unfold t_Cluster_recover
  show Sv _ _ (clu K l dx p q s dead done) [some (ob l), some (.int x), none] _
  obtain ⟨x0, x1⟩ := dk.rg x hx
  obtain ⟨dk2, hx2⟩ := wo_ok dk x
  walk_at "ev"
  refine ev_call ?_
  walk_at "ev"
  refine ⟨l, 0, dx, _, _, rfl, rfl, f_n, ?_⟩
  walk_at "ev"
  refine ⟨rfl, x, _, _, rfl, rfl, by omega, by omega, ?_⟩
  refine ⟨_, rfl, ?_⟩
  rw [if_neg (by decide)]
  refine et_B (ev_dnin ?_)
  walk_at "ev"
  refine ⟨l, 0, dx, _, _, rfl, rfl, f_dead, ?_⟩
  refine ⟨x, p, 1, dead, rfl, rfl, rfl, ?_⟩
  refine ⟨_, rfl, ?_⟩
  rw [decide_eq_true hx]
  refine iteF ?_
  walk_at "ev"
  refine ev_dpop1 ?_
  walk_at "ev"
  refine ⟨l, 0, dx, _, _, rfl, rfl, f_dead, ?_⟩
  refine ⟨p, 1, dead, rfl, rfl, ?_⟩
  walk_at "ev"
  refine ⟨x, 1, dead, rfl, rfl, hx, ?_⟩
  dsimp only [List.set]
  walk_at "ev"
  refine ev_meth ?_
  walk_at "ev"
  refine ⟨l, 0, dx, _, rfl, rfl, f_no (by decide), ?_⟩
  walk_at "ev"
  refine ⟨clu K l dx p q s (wo dead x) done, [], rfl, rfl, l, dx, p, q, s, wo dead x, done, x, rfl, rfl, ok, dk2, x0, x1, hx2, ?_⟩
  dsimp only [List.cons_append, List.nil_append]
  walk_at "ev"
  refine ev_bm ?_
  walk_at "ev"
  refine ⟨l, 0, dx, _, _, rfl, rfl, f_done, ?_⟩
  refine ⟨ty_M (n := 2) rfl, ?_⟩
  walk_at "ev"
  refine ⟨by rw [sizeLine_eq]; show 2 ≤ _; omega, ?_⟩
  walk_at "ev"
  refine md_append (n := 2) rfl (by rw [show (dons done).length = done.length from List.length_map .., sizeLine_eq]; omega) ?_
  dsimp only [List.set]
  rw [← dons_app]
  walk_at "ev"
  exact rt_keys rfl qq
/-! a new cluster -/
def pre_Cluster_init (K : PySem.W.Frag) : PreX := fun S ds mc P => ∃ (l dx : Addr) (s : CS), ds = [ob l, .int s.n, .int s.f, .int s.g, .int s.c] ∧ mc = [(l, .ins (cC_Cluster K) dx [])] ∧ s.Ok ∧ ∀ p q : Addr, P .none [(q, .lst []), (p, .dK [])] [(l, .ins (cC_Cluster K) dx (flds s p q))]
theorem pure_Cluster_init : PureX Sok K 5 N_Cluster_init (t_Cluster_init w K Sok pre_is_integer_cluster pre_is_possible) (pre_Cluster_init K) := by
  rintro S _ _ P H U _ ⟨l, dx, s, rfl, rfl, ok, qq⟩
  unfold t_Cluster_init
  show Sv _ _ [(l, .ins (cC_Cluster K) dx [])] [some (ob l), some (.int s.n), some (.int s.f), some (.int s.g), some (.int s.c)] _
  obtain ⟨n1, n2, f1, f2, g1, g2, d1, c1, c0, c2⟩ := ok
  walk_at "ev"
  refine ev_call ?_
  walk_at "ev"
  refine ⟨rfl, _, _, _, rfl, rfl, by omega, by omega, ?_⟩
  refine ⟨_, rfl, ?_⟩
  refine iteF ?_
  walk_at "ev"
  refine ev_call ?_
  walk_at "ev"
  refine ⟨rfl, _, _, _, rfl, rfl, by omega, by omega, ?_⟩
  refine ⟨_, rfl, ?_⟩
  refine iteF ?_
  walk_at "ev"
  refine ev_call ?_
  walk_at "ev"
  refine ⟨rfl, _, _, _, rfl, rfl, by omega, by omega, ?_⟩
  refine ⟨_, rfl, ?_⟩
  refine iteF ?_
  walk_at "ev"
  refine sv_fld ?_
  walk_at "ev"
  refine ⟨l, 0, dx, _, rfl, rfl, by (show 0 < 1000); decide, ?_⟩
  dsimp only [List.set, List.nil_append]
  rw [show min (s.n : Int) ((s.f : Int) + (s.g : Int)) = (s.d : Int) by omega]
  walk_at "ev"
  refine ev_call ?_
  walk_at "ev"
  refine ⟨l, 0, dx, _, _, rfl, rfl, rfl, ?_⟩
  walk_at "ev"
  refine ⟨rfl, s.n, s.d, s.c, rfl, rfl, by omega, by omega, by omega, c0, c1, ?_⟩
  refine ⟨_, rfl, ?_⟩
  refine iteF ?_
  walk_at "ev"
  refine sv_fld ?_
  walk_at "ev"
  refine ⟨l, 0, dx, _, rfl, rfl, by (show 1 < 1000); decide, ?_⟩
  dsimp only [List.set, List.nil_append]
  walk_at "ev"
  refine sv_fld ?_
  walk_at "ev"
  refine ⟨l, 0, dx, _, rfl, rfl, by (show 2 < 1000); decide, ?_⟩
  dsimp only [List.set, List.nil_append]
  walk_at "ev"
  refine sv_fld ?_
  walk_at "ev"
  refine ⟨l, 0, dx, _, rfl, rfl, by (show 3 < 1000); decide, ?_⟩
  dsimp only [List.set, List.nil_append]
  walk_at "ev"
  refine sv_fld ?_
  walk_at "ev"
  refine ⟨l, 0, dx, _, rfl, rfl, by (show 4 < 1000); decide, ?_⟩
  dsimp only [List.set, List.nil_append]
  walk_at "ev"
  refine sv_fldX (evx_dnew fun p => ?_)
  walk_at "ev"
  refine ⟨l, 1, dx, _, rfl, rfl, by (show 5 < 1000); decide, ?_⟩
  dsimp only [List.set, List.cons_append, List.nil_append]
  refine sv_fldX (evx_ofL (el_lst (ea_nil ⟨by simp, fun q => ?_⟩)))
  walk_at "ev"
  refine ⟨l, 2, dx, _, rfl, rfl, by (show 6 < 1000); decide, ?_⟩
  dsimp only [List.set, List.cons_append, List.nil_append]
  refine ⟨.none, [(q, .lst []), (p, .dK [])], [(l, .ins (cC_Cluster K) dx (flds s p q))], _, _, DLe.refl _, .refl _, .refl _, MLe.refl _, rfl, qq p q⟩
end
end Tx

set_option Elab.async false
set_option linter.all false
set_option maxRecDepth 100000
set_option maxHeartbeats 2000000
set_option exponentiation.threshold 9000
namespace Tx
open PySem PySem.Spec PyProof.Rows L2 DL EM
/-! ### tactics -/
local macro_rules | `(tactic| walk_at "ev1") => `(tactic| first
  | with_reducible refine sv_seq ?_
  | with_reducible refine sv_ret ?_
  | with_reducible refine sv_retN ?_
  | with_reducible refine sv_asgSub ?_
  | with_reducible refine sv_asg ?_
  | with_reducible refine sv_drop ?_
  | with_reducible refine sv_if ?_
  | with_reducible refine sv_next ?_
  | with_reducible refine gv_name ?_
  | with_reducible refine ev_int ?_
  | with_reducible refine ev_bl ?_
  | with_reducible refine ev_str ?_
  | with_reducible refine ev_non ?_
  | with_reducible refine ev_ty ?_
  | with_reducible refine ev_op ?_
  | with_reducible refine ev_un ?_
  | with_reducible refine ev_if ?_
  | with_reducible refine ev_andV ?_
  | with_reducible refine ev_orV ?_
  | with_reducible refine ev_notV ?_
  | with_reducible refine ev_chain ?_
  | with_reducible refine ev_ofL (el_sortedSet ?_)
  | with_reducible refine ev_big ?_
  | with_reducible refine ev_cb ?_
  | with_reducible refine ev_fld ?_
  | with_reducible refine ev_tup ?_
  | with_reducible refine ev_sl ?_
  | with_reducible refine et_test ?_
  | with_reducible refine et_B ?_
  | with_reducible refine et_and ?_
  | with_reducible refine et_or ?_
  | with_reducible refine et_not ?_
  | with_reducible refine et_yes ?_
  | with_reducible refine ea_nil ?_
  | with_reducible refine ea_cons ?_
  | with_reducible refine eo_none ?_
  | with_reducible refine eo_some ?_
  | refine ev_var rfl ?_
  | with_reducible refine od_add ?_
  | with_reducible refine od_sub ?_
  | with_reducible refine od_lt ?_
  | with_reducible refine od_le ?_
  | with_reducible refine od_gt ?_
  | with_reducible refine od_ge ?_
  | with_reducible refine od_eqI ?_
  | with_reducible refine od_neI ?_
  | with_reducible refine cd_lenT ?_
  | with_reducible refine cd_lenL ?_
  | with_reducible refine cd_abs ?_
  | with_reducible refine cd_max2 ?_
  | with_reducible refine cd_min2 ?_
  | with_reducible refine cd_intB ?_
  | with_reducible refine cd_tupL ?_
  | with_reducible refine iteT ?_
  | with_reducible refine iteF ?_)
local macro_rules | `(tactic| walk_at "ev") => `(tactic| repeat (first | walk_at "ev1" | (dsimp only [List.set, List.nil_append])))
section
variable {w : World} {K : PySem.W.Frag} {Sok : List V → Prop}
/-! numbers_with, of one server -/
def pre_numbers_with : Pre := fun S ds mc P => ∃ (n c x : Nat), ds = [.int n, .int c, .tuple [.int x]] ∧ mc = [] ∧ 1 ≤ n ∧ n ≤ 60 ∧ x < n ∧ LL n 1 ∣ c ∧ 0 < c ∧ c < 2 ^ 8000 ∧ P (.tuple [.int (x * wid n c 0 : Nat), .int (wid n c 0 : Nat)]) []
theorem outs_nil (n : Nat) : outs n [] = rg n := by
  unfold outs
  exact List.filter_eq_self.mpr fun x _ => by simp
theorem pure_numbers_with : Pure Sok K 3 N_numbers_with (t_numbers_with w K Sok pre_look_at_count pre_edge_divisor pre_outside pre_with_server) pre_numbers_with := by
  rintro S _ _ P H U _ ⟨n, c, x, rfl, rfl, h1, h2, hx, hdv, hc, hc2, qq⟩
  unfold t_numbers_with
  show Sv _ _ [] [some (.int n), some (.int c), some (.tuple [.int x]), none, none, none, none, none, none, none, none, none] _
  have hw : wid n c 0 * n = c := by
    have := wid_mul hdv (b := 0) (by omega)
    rw [show ed n 0 = n by unfold ed; rw [ch_zero, Nat.mul_one]] at this
    exact this
  have hw0 : 0 < wid n c 0 := wid_pos hdv (b := 0) (by omega) h1 hc
  have hwl : wid n c 0 < 2 ^ 8000 := Nat.lt_of_le_of_lt (Nat.div_le_self _ _) hc2
  have hxw : x * wid n c 0 + wid n c 0 ≤ c := by
    have := Nat.mul_le_mul_right (wid n c 0) (show x + 1 ≤ n by omega)
    rw [Nat.add_mul, Nat.one_mul, Nat.mul_comm n] at this
    omega
  walk_at "ev"
  refine ev_call ?_
  walk_at "ev"
  refine ⟨rfl, n, 1, c, rfl, rfl, h1, h2, h1, hc, hdv, ?_⟩
  walk_at "ev"
  refine ⟨by rw [sizeLine_eq]; show 0 ≤ _; omega, ?_⟩
  walk_at "ev"
  refine ⟨by rw [sizeLine_eq]; show 4 ≤ _; omega, ?_⟩
  refine gv_tup rfl (gv_cons (gv_name (gv_cons (gv_name (gv_cons (gv_name (gv_cons (gv_name (gv_nil ?_)))))))))
  dsimp only [List.set]
  refine sv_seq (sv_for (ei_T ?_))
  walk_at "ev"
  refine ⟨_, rfl, fun i m' ρ' => m' = [] ∧ ((i = 0 ∧ ρ' = [some (.int n), some (.int c), some (.tuple [.int x]), some (.int 0), some (.int c), some (.tuple []), some (.int 0), none, none, none, none, none]) ∨
    (i = 1 ∧ ∃ x5 x6 x7 x8 x9 x10 x11, ρ' = [some (.int n), some (.int c), some (.tuple [.int x]), some (.int (x * wid n c 0 : Nat)), some (.int (wid n c 0 : Nat)), x5, x6, x7, x8, x9, x10, x11])), ⟨rfl, .inl ⟨rfl, rfl⟩⟩, ?_, ?_⟩
  · rintro i d m' ρ' hd ⟨rfl, hI⟩
    rcases hI with ⟨rfl, rfl⟩ | ⟨rfl, _⟩
    · have hd : PyData.int x = d := Option.some.inj hd
      subst hd
      refine gv_name ?_
      dsimp only [List.set]
      walk_at "ev"
      refine ev_call ?_
      walk_at "ev"
      refine ⟨rfl, n, 0, rfl, rfl, h1, h2, ?_⟩
      have he := ed_lt (n := n) (b := 0) h2
      have he0 := ed_pos (n := n) (b := 0) (by omega)
      refine od_fdiv (wide_div (b := 66) (by omega) (by omega) (by decide) (by decide)) ?_
      rw [← Int.natCast_ediv]
      walk_at "ev"
      refine ev_bmN ?_
      refine ev_call ?_
      walk_at "ev"
      refine ⟨rfl, n, [], rfl, rfl, by omega, ?_⟩
      refine ⟨_, rfl, ?_⟩
      walk_at "ev"
      rw [outs_nil]
      refine md_indexT (rg_get hx) (first_of (asc_nodup (rg_asc n)) (rg_get hx)) ?_
      walk_at "ev"
      refine od_mul (wide_mul (a := 10) (b := 8000) (by omega) (by rw [Int.natAbs_natCast]; exact hwl) (by decide) (by decide) (by decide)) ?_
      have e1 : (x : Int) * ((c / ed n 0 : Nat) : Int) = ((x * wid n c 0 : Nat) : Int) := by rw [← Int.natCast_mul]; rfl
      rw [e1]
      have e2 : (c / ed n 0 : Nat) = wid n c 0 := rfl
      rw [e2]
      generalize x * wid n c 0 = st at hxw qq ⊢
      generalize wid n c 0 = wd0 at hw hw0 hwl hxw qq ⊢
      walk_at "ev"
      refine sv_par ?_
      walk_at "ev"
      refine ⟨_, _, rfl, ?_⟩
      rw [show max (0 : Int) (st : Int) = (st : Int) by omega, show min ((0 : Int) + (c : Int)) ((st : Int) + (wd0 : Int)) = ((st + wd0 : Nat) : Int) by omega]
      walk_at "ev"
      refine ⟨_, rfl, ite_no (by omega) ?_⟩
      walk_at "ev"
      refine sv_par ?_
      walk_at "ev"
      refine ⟨_, _, rfl, ?_⟩
      walk_at "ev"
      refine ev_call ?_
      walk_at "ev"
      refine ⟨rfl, [], (x : Int), rfl, rfl, by decide, ?_⟩
      walk_at "ev"
      refine ev_bmN ?_
      walk_at "ev"
      refine ⟨_, rfl, ?_⟩
      walk_at "ev"
      refine md_indexT (j := 0) (ns := srt ([] ++ [(x : Int)])) rfl (fun j hj => by omega) ?_
      walk_at "ev"
      refine od_mul (wide_mul (a := 10) (b := 8000) (by decide) (by rw [Int.natAbs_natCast]; exact hwl) (by decide) (by decide) (by decide)) ?_
      walk_at "ev"
      rw [show (0 : Int) + (st : Int) - 0 = (st : Int) by omega, show ((st + wd0 : Nat) : Int) - (st : Int) = (wd0 : Int) by omega]
      exact Wk.of ⟨rfl, .inr ⟨rfl, _, _, _, _, _, _, _, rfl⟩⟩
    · exact absurd hd (by simp)
  · rintro m' ρ' ⟨rfl, hI⟩
    rcases hI with ⟨h, _⟩ | ⟨_, x5, x6, x7, x8, x9, x10, x11, rfl⟩
    · exact absurd h (by simp)
    walk_at "ev"
    exact ⟨by rw [sizeLine_eq]; show 2 ≤ _; omega, rt_nil qq⟩
/-! shards -/
def pre_law_shards : Pre := fun S ds mc P => ∃ (l : Addr) (s : CS) (x : Nat), ds = [ob l, .tuple [.int s.n, .int s.f, .int s.g, .int s.c], .int x] ∧ mc = [pot l] ∧ s.Ok ∧ x < s.n ∧
  ∀ ys : List Int, ys.length = 11 → (∀ y ∈ ys, 0 ≤ y ∧ y < s.c) → P (.list (dts ys)) [pot l]
theorem pure_law_shards : Pure Sok K 3 N_law_shards (t_law_shards w K Sok pre_numbers_with pre_law_draw) pre_law_shards := by
  rintro S _ _ P H U _ ⟨l, s, x, rfl, rfl, ok, hx, qq⟩
  unfold t_law_shards
  show Sv _ _ [pot l] [some (ob l), some (.tuple _), some (.int x), none, none, none, none, none, none, none, none] _
  have n1 := ok.n1
  have n2 := ok.n2
  have hd1 : 1 ≤ s.d := by have := ok.d1; have := ok.f1; omega
  have hdv : LL s.n 1 ∣ s.c := Nat.dvd_trans (LL_le_dvd hd1) ok.c1
  have c0 := ok.c0
  have c2 : s.c < 2 ^ 8000 := Nat.lt_trans ok.c2 (Nat.pow_lt_pow_right (by decide) (by decide))
  have hw : wid s.n s.c 0 * s.n = s.c := by
    have := wid_mul hdv (b := 0) (by omega)
    rw [show ed s.n 0 = s.n by unfold ed; rw [ch_zero, Nat.mul_one]] at this
    exact this
  have hw0 : 0 < wid s.n s.c 0 := wid_pos hdv (b := 0) (by omega) (by omega) c0
  have hxw : x * wid s.n s.c 0 + wid s.n s.c 0 ≤ s.c := by
    have := Nat.mul_le_mul_right (wid s.n s.c 0) (show x + 1 ≤ s.n by omega)
    rw [Nat.add_mul, Nat.one_mul, Nat.mul_comm s.n] at this
    omega
  walk_at "ev"
  refine gv_tup rfl (gv_cons (gv_name (gv_cons (gv_name (gv_cons (gv_name (gv_cons (gv_name (gv_nil ?_)))))))))
  dsimp only [List.set]
  walk_at "ev"
  refine ev_call ?_
  walk_at "ev"
  refine ⟨by rw [sizeLine_eq]; show 1 ≤ _; omega, ?_⟩
  walk_at "ev"
  refine ⟨rfl, s.n, s.c, x, rfl, rfl, by omega, n2, hx, hdv, c0, c2, ?_⟩
  generalize x * wid s.n s.c 0 = st at hxw ⊢
  generalize wid s.n s.c 0 = wd0 at hw hw0 hxw ⊢
  refine gv_tup rfl (gv_cons (gv_name (gv_cons (gv_name (gv_nil ?_)))))
  dsimp only [List.set, List.nil_append]
  walk_at "ev"
  refine ev_ofL (el_lst ?_)
  walk_at "ev"
  refine ev_callM ?_
  walk_at "ev"
  refine ⟨[pot l], [], rfl, rfl, l, _, rfl, rfl, by omega, by omega, fun v v1 v2 => ?_⟩
  dsimp only [List.cons_append, List.nil_append]
  walk_at "ev"
  refine ⟨by rw [sizeLine_eq]; show 5 ≤ _; omega, ?_⟩
  walk_at "ev"
  refine ev_ofL (el_lc (own_name (by simp)) mono_name (ei_r1 ?_))
  walk_at "ev"
  refine ⟨_, rfl, by decide, by decide, by rw [rng_len, sizeLine_eq]; decide, fun i acc m' => m' = [pot l] ∧ ∃ zs : List Int, acc = dts zs ∧ zs.length = i ∧ ∀ z ∈ zs, 0 ≤ z ∧ z < s.c, ⟨rfl, [], rfl, rfl, by simp⟩, ?_, ?_⟩
  · rintro i d acc m' hd ⟨rfl, zs, rfl, hz, hzs⟩
    refine gv_name ?_
    dsimp only [wipeD, List.set]
    walk_at "ev"
    refine ev_callM ?_
    walk_at "ev"
    refine ⟨[pot l], [], rfl, rfl, l, _, rfl, rfl, by omega, by omega, fun u u1 u2 => ?_⟩
    refine ⟨rfl, zs ++ [u], ?_, by rw [List.length_append, hz]; rfl, fun z hz => ?_⟩
    · rw [dts, dts, List.map_append]
      rfl
    · rcases List.mem_append.mp hz with h | h
      · exact hzs z h
      · rw [List.mem_singleton.mp h]; exact ⟨u1, u2⟩
  · rintro acc m' ⟨rfl, zs, rfl, hz, hzs⟩
    have hz6 : zs.length = 6 := hz
    refine od_addL (xs := dts [(st : Int), (st : Int) + (wd0 : Int) - 1, (st : Int) + v, 0, (s.c : Int) - 1]) (by rw [show (dts zs).length = zs.length from List.length_map .., sizeLine_eq]; show 5 + _ ≤ _; omega) ?_
    rw [show dts [(st : Int), (st : Int) + (wd0 : Int) - 1, (st : Int) + v, 0, (s.c : Int) - 1] ++ dts zs = dts ([(st : Int), (st : Int) + (wd0 : Int) - 1, (st : Int) + v, 0, (s.c : Int) - 1] ++ zs) from (List.map_append ..).symm]
    refine rt_same (qq _ (by rw [List.length_append, hz6]; rfl) fun y hy => ?_)
    rcases List.mem_append.mp hy with h | h
    · simp only [List.mem_cons, List.not_mem_nil, or_false] at h
      rcases h with e | e | e | e | e <;> subst e <;> omega
    · exact hzs y h
end
section
variable {w : World} {K : PySem.W.Frag} {Sok : List V → Prop}
/-! copies come out even -/
theorem U_ex {n c d : Nat} (h : LL n d ∣ c) (hd : d ≤ n) : ∀ (k b : Nat), b + k < d → ∃ u, u * ((n - k - b) * ch (n - k) b) = c
  | 0, b, hb => ⟨wid n c b, by
    have := wid_mul h (b := b) (by omega)
    rw [ed_eq (by omega)] at this
    exact this⟩
  | k + 1, b, hb => by
    obtain ⟨u1, h1⟩ := U_ex h hd k b (by omega)
    obtain ⟨u2, h2⟩ := U_ex h hd k (b + 1) (by omega)
    obtain ⟨N, hN⟩ : ∃ N, n - k = N + 1 := ⟨n - k - 1, by omega⟩
    rw [hN] at h1 h2
    refine ⟨u1 + u2, ?_⟩
    rw [show n - (k + 1) = N by omega]
    have e1 : (N + 1) * ch N b = (N + 1 - b) * ch (N + 1) b := ed_eq (n := N + 1) (b := b) (by omega)
    have e2 : (N + 1) * ch N b = (b + 1) * ch (N + 1) (b + 1) := ch_b N b (by omega)
    have q1 : c * (N - b) = u1 * (N + 1) * ((N - b) * ch N b) := by
      rw [← h1, ← e1]
      simp only [Nat.mul_assoc, Nat.mul_comm, Nat.mul_left_comm]
    have q2 : c * (b + 1) = u2 * (N + 1) * ((N - b) * ch N b) := by
      rw [← h2, show N + 1 - (b + 1) = N - b by omega]
      have : (N - b) * ch (N + 1) (b + 1) * (b + 1) = (N + 1) * ((N - b) * ch N b) := by
        rw [Nat.mul_assoc, Nat.mul_comm (ch (N + 1) (b + 1)), ← e2]
        simp only [Nat.mul_assoc, Nat.mul_comm, Nat.mul_left_comm]
      rw [Nat.mul_assoc, this]
      simp only [Nat.mul_assoc, Nat.mul_comm, Nat.mul_left_comm]
    have q3 : (u1 + u2) * ((N - b) * ch N b) * (N + 1) = c * (N + 1) := by
      have e : N + 1 = (N - b) + (b + 1) := by omega
      calc (u1 + u2) * ((N - b) * ch N b) * (N + 1) = u1 * (N + 1) * ((N - b) * ch N b) + u2 * (N + 1) * ((N - b) * ch N b) := by
            rw [Nat.add_mul, Nat.add_mul]
            simp only [Nat.mul_assoc, Nat.mul_comm, Nat.mul_left_comm]
        _ = c * (N - b) + c * (b + 1) := by rw [← q1, ← q2]
        _ = c * (N + 1) := by rw [← Nat.mul_add, ← e]
    exact Nat.eq_of_mul_eq_mul_right (by omega) q3
theorem even_copy {n c d g k : Nat} (h : LL n d ∣ c) (hd : d ≤ n) (hk : g + k < d) (hg : 1 ≤ g) : (c * g / (n - k)) % (n - k - 1) = 0 := by
  obtain ⟨u, hu⟩ := U_ex h hd k g hk
  obtain ⟨s, hs⟩ : ∃ s, n - k = s + 2 := ⟨n - k - 2, by omega⟩
  obtain ⟨g', rfl⟩ : ∃ g', g = g' + 1 := ⟨g - 1, by omega⟩
  rw [hs] at hu ⊢
  have e1 : (s + 2) * ch (s + 1) (g' + 1) = (s + 2 - (g' + 1)) * ch (s + 2) (g' + 1) := ed_eq (n := s + 2) (b := g' + 1) (by omega)
  have e2 : (s + 1) * ch s g' = (g' + 1) * ch (s + 1) (g' + 1) := ch_b s g' (by omega)
  have e3 : c * (g' + 1) = (u * ch s g' * (s + 1)) * (s + 2) := by
    rw [← hu, ← e1]
    have : (s + 2) * ch (s + 1) (g' + 1) * (g' + 1) = (s + 2) * ((s + 1) * ch s g') := by rw [e2, Nat.mul_assoc, Nat.mul_comm (ch (s + 1) (g' + 1))]
    rw [Nat.mul_assoc, this]
    simp only [Nat.mul_assoc, Nat.mul_comm, Nat.mul_left_comm]
  rw [e3, Nat.mul_div_cancel _ (by omega), show s + 2 - 1 = s + 1 by omega, Nat.mul_mod_left]
/-! a failure, list by list -/
theorem take_wo {F : List Int} (h : F.Nodup) (x : Int) : ∀ g : Nat, g < F.length → (F.filter fun y => !decide (y = x)).take g = if x ∈ F.take g then ((F.take g).filter fun y => !decide (y = x)) ++ [F.getD g 0] else F.take g := by
  induction F with
  | nil => intro g hg; simp at hg
  | cons a F ih =>
    intro g hg
    rw [List.nodup_cons] at h
    cases g with
    | zero => simp
    | succ g =>
      have hg : g < F.length := by simpa using hg
      have ih := ih h.2 g hg
      by_cases e : a = x
      · subst e
        have hn : (F.filter fun y => !decide (y = a)) = F := List.filter_eq_self.mpr fun y hy => by
          have : y ≠ a := fun q => h.1 (by rw [← q]; exact hy)
          simp [this]
        have ht : ((F.take g).filter fun y => !decide (y = a)) = F.take g := List.filter_eq_self.mpr fun y hy => by
          have : y ≠ a := fun q => h.1 (by rw [← q]; exact List.mem_of_mem_take hy)
          simp [this]
        rw [List.filter_cons_of_neg (by simp), hn, List.take_succ_cons, if_pos List.mem_cons_self, List.filter_cons_of_neg (by simp), ht, List.getD_cons_succ, List.take_add_one, List.getElem?_eq_getElem hg, List.getD_eq_getElem?_getD, List.getElem?_eq_getElem hg]
        rfl
      · rw [List.filter_cons_of_pos (by simp [e]), List.take_succ_cons, ih, List.take_succ_cons, List.getD_cons_succ]
        by_cases c : x ∈ F.take g
        · rw [if_pos c, if_pos (List.mem_cons_of_mem _ c), List.filter_cons_of_pos (by simp [e])]
          rfl
        · rw [if_neg c, if_neg (fun q => by
            rcases List.mem_cons.mp q with q | q
            · exact e q.symm
            · exact c q)]
theorem outs_app (n : Nat) (dead : List Int) (x : Int) : outs n (dead ++ [x]) = (outs n dead).filter fun y => !decide (y = x) := by
  unfold outs
  rw [List.filter_filter]
  congr 1
  funext y
  by_cases h : y = x
  · subst h; simp
  · by_cases h2 : y ∈ dead <;> simp [h, h2]
theorem lvo_app (s : CS) (dead : List Int) (x : Int) (k : Nat) : lvo s (dead ++ [x]) k = (lvo s dead k).filter fun y => !decide (y = x) := by
  unfold lvo
  rw [outs_app, List.filter_filter]
  congr 1
  funext y
  by_cases h : y = x
  · subst h; simp
  · by_cases h2 : y ∈ outs s.n dead <;> simp [h, h2]
end
end Tx

set_option Elab.async false
set_option linter.all false
set_option maxRecDepth 100000
set_option maxHeartbeats 2000000
set_option exponentiation.threshold 9000
namespace Tx
open PySem PySem.Spec PyProof.Rows L2 DL EM
/-! ### tactics -/
local macro_rules | `(tactic| walk_at "ev1") => `(tactic| first
  | with_reducible refine sv_seq ?_
  | with_reducible refine sv_ret ?_
  | with_reducible refine sv_retN ?_
  | with_reducible refine sv_asgSub ?_
  | with_reducible refine sv_asg ?_
  | with_reducible refine sv_drop ?_
  | with_reducible refine sv_if ?_
  | with_reducible refine sv_next ?_
  | with_reducible refine gv_name ?_
  | with_reducible refine ev_int ?_
  | with_reducible refine ev_bl ?_
  | with_reducible refine ev_str ?_
  | with_reducible refine ev_non ?_
  | with_reducible refine ev_ty ?_
  | with_reducible refine ev_op ?_
  | with_reducible refine ev_un ?_
  | with_reducible refine ev_if ?_
  | with_reducible refine ev_andV ?_
  | with_reducible refine ev_orV ?_
  | with_reducible refine ev_notV ?_
  | with_reducible refine ev_chain ?_
  | with_reducible refine ev_ofL (el_sortedSet ?_)
  | with_reducible refine ev_big ?_
  | with_reducible refine ev_cb ?_
  | with_reducible refine ev_fld ?_
  | with_reducible refine ev_tup ?_
  | with_reducible refine ev_sl ?_
  | with_reducible refine et_test ?_
  | with_reducible refine et_B ?_
  | with_reducible refine et_and ?_
  | with_reducible refine et_or ?_
  | with_reducible refine et_not ?_
  | with_reducible refine et_yes ?_
  | with_reducible refine ea_nil ?_
  | with_reducible refine ea_cons ?_
  | with_reducible refine eo_none ?_
  | with_reducible refine eo_some ?_
  | refine ev_var rfl ?_
  | with_reducible refine od_add ?_
  | with_reducible refine od_sub ?_
  | with_reducible refine od_lt ?_
  | with_reducible refine od_le ?_
  | with_reducible refine od_gt ?_
  | with_reducible refine od_ge ?_
  | with_reducible refine od_eqI ?_
  | with_reducible refine od_neI ?_
  | with_reducible refine cd_lenT ?_
  | with_reducible refine cd_lenL ?_
  | with_reducible refine cd_abs ?_
  | with_reducible refine cd_max2 ?_
  | with_reducible refine cd_min2 ?_
  | with_reducible refine cd_intB ?_
  | with_reducible refine cd_tupL ?_
  | with_reducible refine iteT ?_
  | with_reducible refine iteF ?_)
local macro_rules | `(tactic| walk_at "ev") => `(tactic| repeat (first | walk_at "ev1" | (dsimp only [List.set, List.nil_append])))
section
variable {w : World} {K : PySem.W.Frag} {Sok : List V → Prop}
theorem dts_get {O : List Int} {i : Nat} {d : D} (h : (dts O)[i]? = some d) : ∃ y, O[i]? = some y ∧ d = .int y := by
  rw [List.getElem?_map] at h
  cases e : O[i]? with
  | none => rw [e] at h; cases h
  | some y => rw [e] at h; exact ⟨y, rfl, (Option.some.inj h).symm⟩
/-- [e for j in xs], nothing changed -/
theorem el_lcMap {W : Wd} {m : M} {ρ : Names} {tl te : TE} {j : Nat} {xs : List Int} {f : Int → D} {P : List D → M → Prop} (h0 : Ev W tl m ρ fun d m' => (d = .list (dts xs) ∧ m = m')) (hl : xs.length ≤ sizeLine)
    (hs : ∀ y ∈ xs, Ev W te m ((wipeD ρ [j]).set j (some (.int y))) fun d m' => d = f y ∧ m = m') (h : P (xs.map f) m) : EvL W (tLc (iAny W.K tl) (gName j) tYes te [j]) m ρ P := by
  refine el_lc (own_name (by simp)) mono_name (ei_L (Ev.imp h0 ?_))
  rintro _ _ ⟨rfl, rfl⟩
  refine ⟨_, rfl, by rw [show (dts xs).length = xs.length from List.length_map ..]; exact hl, fun i acc m' => m = m' ∧ acc = (xs.take i).map f, ⟨rfl, rfl⟩, ?_, ?_⟩
  · rintro i d acc m' hd ⟨rfl, rfl⟩
    obtain ⟨y, hy, rfl⟩ := dts_get hd
    refine gv_name (et_yes ?_)
    rw [if_pos rfl]
    refine Ev.imp (hs y (List.mem_of_getElem? hy)) ?_
    rintro _ _ ⟨rfl, rfl⟩
    refine ⟨rfl, ?_⟩
    rw [List.take_add_one, hy, List.map_append]
    rfl
  · rintro acc m' ⟨rfl, rfl⟩
    rw [show (dts xs).length = xs.length from List.length_map .., List.take_of_length_le (Nat.le_refl _)]
    exact h
/-- [y for y in xs if ..] of a tuple -/
theorem el_lcFil {W : Wd} {m : M} {ρ : Names} {tl : TE} {tt : TT} {j : Nat} {O : List Int} {p : Int → Bool} {P : List D → M → Prop} (hj : j < ρ.length) (h0 : Ev W tl m ρ fun d m' => (d = .tuple (dts O) ∧ m = m')) (hl : O.length ≤ sizeLine)
    (hs : ∀ y ∈ O, EvT W tt m ((wipeD ρ [j]).set j (some (.int y))) fun b m' => b = p y ∧ m = m') (h : P (dts (O.filter p)) m) : EvL W (tLc (iAny W.K tl) (gName j) tt (tVar j) [j]) m ρ P := by
  refine el_lc (own_name (by simp)) mono_name (ei_T (Ev.imp h0 ?_))
  rintro _ _ ⟨rfl, rfl⟩
  refine ⟨_, rfl, by rw [show (dts O).length = O.length from List.length_map ..]; exact hl, fun i acc m' => m = m' ∧ acc = dts ((O.take i).filter p), ⟨rfl, rfl⟩, ?_, ?_⟩
  · rintro i d acc m' hd ⟨rfl, rfl⟩
    obtain ⟨y, hy, rfl⟩ := dts_get hd
    refine gv_name (EvT.imp (hs y (List.mem_of_getElem? hy)) ?_)
    rintro _ _ ⟨rfl, rfl⟩
    have e : (O.take (i + 1)).filter p = (O.take i).filter p ++ (if p y = true then [y] else []) := by
      rw [List.take_add_one, hy, List.filter_append]
      congr 1
      by_cases c : p y = true
      · rw [if_pos c]; exact List.filter_cons_of_pos c
      · rw [if_neg c]; exact List.filter_cons_of_neg c
    by_cases c : p y = true
    · rw [if_pos c]
      refine ev_var (d := .int y) (by rw [List.getElem?_set_self (by show j < (ρ.set j none).length; rw [List.length_set]; exact hj)]) ⟨rfl, ?_⟩
      rw [e, if_pos c, dts, dts, List.map_append]
      rfl
    · rw [if_neg c]
      exact ⟨rfl, by rw [e, if_neg c, List.append_nil]⟩
  · rintro acc m' ⟨rfl, rfl⟩
    rw [show (dts O).length = O.length from List.length_map .., List.take_of_length_le (Nat.le_refl _)]
    exact h
/-! fails -/
def szs (s : CS) : D := .tuple [.int s.n, .int s.f, .int s.g, .int s.c]
def pre_law_fails (K : PySem.W.Frag) : Pre := fun S ds mc P => ∃ l dx p q s dead done, ∃ (x : Int) (xs : List Int), ds = [ob l, szs s, .int x, .list (dts xs)] ∧ mc = clu K l dx p q s dead done ∧ s.Ok ∧ DOk s dead ∧ 0 ≤ x ∧ x < s.n ∧ x ∉ dead ∧ dead.length < s.f ∧ s.f + s.g < s.n ∧
  done.length ≤ 1000 ∧ xs.length ≤ 1000 ∧ (∀ y ∈ xs, 0 ≤ y ∧ y < s.c) ∧ P (.bool true) (clu K l dx p q s (dead ++ [x]) (done ++ [(x, ((mny s dead : Nat) : Int))]))
theorem dok_app {s : CS} {dead : List Int} (k : DOk s dead) {x : Int} (x0 : 0 ≤ x) (x1 : x < s.n) (hx : x ∉ dead) (hd : dead.length < s.f) : DOk s (dead ++ [x]) :=
  ⟨List.nodup_append.mpr ⟨k.nd, by simp, fun a ha b hb => by rw [List.mem_singleton.mp hb]; exact fun e => hx (by rw [← e]; exact ha)⟩, fun y hy => by
    rcases List.mem_append.mp hy with h | h
    · exact k.rg y h
    · rw [List.mem_singleton.mp h]; exact ⟨x0, x1⟩, by rw [List.length_append]; exact hd⟩
theorem pure_law_fails : Pure Sok K 4 N_law_fails (t_law_fails w K Sok (pre_Cluster_owners K) (pre_Cluster_len K) (pre_Cluster_successor K) (pre_Cluster_fail K)) (pre_law_fails K) := by
  rintro S _ _ P H U _ ⟨l, dx, p, q, s, dead, done, x, xs, rfl, rfl, ok, dk, x0, x1, hx, hd, hfg, hdn, hxl, hxs, qq⟩
  unfold t_law_fails
  show Sv _ _ (clu K l dx p q s dead done) [some (ob l), some (szs s), some (.int x), some (.list (dts xs)), none, none, none, none, none, none, none, none, none, none, none, none, none, none] _
  have n2 := ok.n2
  have hal := dead_len dk
  have hg : s.g < (outs s.n dead).length := by omega
  have dk2 := dok_app dk x0 x1 hx hd
  have hal2 := dead_len dk2
  rw [List.length_append] at hal2
  have hlx : xs.length ≤ sizeLine := by rw [sizeLine_eq]; omega
  walk_at "ev"
  refine gv_tup rfl (gv_cons (gv_name (gv_cons (gv_name (gv_cons (gv_name (gv_cons (gv_name (gv_nil ?_)))))))))
  dsimp only [List.set]
  refine sv_seq (sv_par ?_)
  walk_at "ev"
  refine cd_lenOwn (i := 0) (mc := clu K l dx p q s dead done) (mr := []) rfl rfl ?_
  refine ⟨l, dx, p, q, s, dead, done, rfl, rfl, ok, ?_⟩
  refine ⟨_, rfl, by omega, by omega, ?_⟩
  dsimp only [List.cons_append, List.nil_append]
  walk_at "ev"
  refine ev_ofL (el_lcMap (f := fun y => .tuple (dts (own s dead y.toNat))) (ev_var rfl ⟨rfl, rfl⟩) hlx (fun y hy => ?_) ?_)
  · obtain ⟨y0, y1⟩ := hxs y hy
    dsimp only [wipeD, List.set]
    refine ev_meth ?_
    walk_at "ev"
    refine ⟨l, 0, dx, _, rfl, rfl, f_no (by decide), ?_⟩
    walk_at "ev"
    exact ⟨clu K l dx p q s dead done, [], rfl, rfl, l, dx, p, q, s, dead, done, y.toNat, by rw [Int.toNat_of_nonneg y0], rfl, ok, dk, by omega, rfl, rfl⟩
  walk_at "ev"
  refine ⟨_, _, rfl, ?_⟩
  refine sv_seq (sv_asg ?_)
  refine ev_ofL (el_lcMap (f := fun y => nxt (lvo s dead y.toNat) s.g x) (ev_var rfl ⟨rfl, rfl⟩) hlx (fun y hy => ?_) ?_)
  · obtain ⟨y0, y1⟩ := hxs y hy
    dsimp only [wipeD, List.set]
    refine ev_meth ?_
    walk_at "ev"
    refine ⟨l, 0, dx, _, rfl, rfl, f_no (by decide), ?_⟩
    walk_at "ev"
    exact ⟨clu K l dx p q s dead done, [], rfl, rfl, l, dx, p, q, s, dead, done, y.toNat, x, by rw [Int.toNat_of_nonneg y0], rfl, ok, dk, by omega, x0, x1, hx, hd, hg, rfl, rfl⟩
  walk_at "ev"
  refine ev_meth ?_
  walk_at "ev"
  refine ⟨l, 0, dx, _, rfl, rfl, f_no (by decide), ?_⟩
  walk_at "ev"
  refine ⟨clu K l dx p q s dead done, [], rfl, rfl, l, dx, p, q, s, dead, done, x, rfl, rfl, ok, dk, x0, x1, hx, hd, hdn, ?_⟩
  dsimp only [List.cons_append, List.nil_append]
  have hm : mny s dead = s.c * s.g / (outs s.n dead).length := by
    unfold mny lod
    rw [if_pos hg, Nat.min_eq_left (Nat.le_of_lt hg)]
  have hev : mny s dead % ((outs s.n dead).length - 1) = 0 := by
    have := even_copy ok.c1 ok.dn (g := s.g) (k := dead.length) (by have := ok.d1; omega) ok.g1
    rw [hm]
    rw [show s.n - dead.length = (outs s.n dead).length by omega] at this
    exact this
  have c2 := ok.c2
  have g2 := ok.g2
  walk_at "ev"
  refine od_mul (wide_mul (a := 7000) (b := 10) (by rw [Int.natAbs_natCast]; exact c2) (by omega) (by decide) (by decide) (by decide)) ?_
  walk_at "ev"
  refine od_fdiv (wide_div (b := 10) (by omega) (by omega) (by decide) (by decide)) ?_
  rw [← Int.natCast_mul, ← Int.natCast_ediv, ← hm]
  walk_at "ev"
  refine ⟨_, rfl, ite_nno rfl ?_⟩
  walk_at "ev"
  refine od_mod (by omega) ?_
  rw [show ((outs s.n dead).length : Int) - 1 = (((outs s.n dead).length - 1 : Nat) : Int) by omega, ← Int.natCast_emod, hev]
  walk_at "ev"
  refine ⟨_, rfl, ?_⟩
  refine iteF ?_
  walk_at "ev"
  refine sv_for (ei_zip3 ?_)
  walk_at "ev"
  refine ⟨_, _, _, rfl, by rw [List.length_map, List.length_map], by rw [List.length_map, List.length_map], fun i m' ρ' => m' = clu K l dx p q s (dead ++ [x]) (done ++ [(x, ((mny s dead : Nat) : Int))]) ∧ ∃ x8 x13 x14 x15 x16 x17 y4 y5 y6 y7 y9 y10 y11 y12, ρ' = [some (ob l), some (szs s), some (.int x), some (.list (dts xs)), y4, y5, y6, y7, x8, y9, y10, y11, y12, x13, x14, x15, x16, x17], ⟨rfl, _, _, _, _, _, _, _, _, _, _, _, _, _, _, rfl⟩, ?_, ?_⟩
  · rintro i d m' ρ' hdd ⟨rfl, x8, x13, x14, x15, x16, x17, y4, y5, y6, y7, y9, y10, y11, y12, rfl⟩
    have hlen : (dts xs).length = xs.length := List.length_map ..
    rw [List.getElem?_map] at hdd
    have hi : i < xs.length := by
      by_cases c : i < xs.length
      · exact c
      · rw [List.getElem?_eq_none (by rw [List.length_range, hlen]; omega)] at hdd; cases hdd
    rw [List.getElem?_range (by rw [hlen]; exact hi)] at hdd
    have hdd := (Option.some.inj hdd).symm
    subst hdd
    obtain ⟨y, hy⟩ : ∃ y, xs[i]? = some y := ⟨_, List.getElem?_eq_getElem hi⟩
    have gd : ∀ f : Int → D, (xs.map f).getD i .none = f y := fun f => by rw [List.getD_eq_getElem?_getD, List.getElem?_map, hy]; rfl
    dsimp only
    rw [show (dts xs).getD i .none = .int y from gd _, gd, gd]
    obtain ⟨yy0, yy1⟩ := hxs y (List.mem_of_getElem? hy)
    obtain ⟨z, rfl⟩ : ∃ z : Nat, y = z := ⟨y.toNat, by omega⟩
    have hz : z < s.c := by omega
    rw [show ((z : Int)).toNat = z by omega]
    have hlg := lvo_gt ok dk hz hd hg
    have hnd := lvo_nd (dead := dead) ok hz
    have hll := lvo_le (dead := dead) ok hz
    have hown : own s dead z = (lvo s dead z).take s.g := by unfold own; rw [Nat.min_eq_left (Nat.le_of_lt hg)]
    have hown2 : own s (dead ++ [x]) z = ((lvo s dead z).filter fun y => !decide (y = x)).take s.g := by
      unfold own
      rw [lvo_app, Nat.min_eq_left (by simp at hal2; omega)]
    rw [take_wo hnd x s.g hlg] at hown2
    rw [hown]
    unfold nxt
    refine gv_tup rfl (gv_cons (gv_name (gv_cons (gv_name (gv_cons (gv_name (gv_nil ?_)))))))
    dsimp only [List.set]
    generalize hF : (lvo s dead z).take s.g = F at hown2 ⊢
    have hFl : F.length ≤ 60 := by rw [← hF, List.length_take]; omega
    generalize (lvo s dead z).getD s.g 0 = nw at hown2 ⊢
    refine sv_seq (sv_asg ?_)
    refine ev_cb (ea_cons (ev_ofL (el_lcFil (O := F) (p := fun y => !decide (y = x)) (by simp) (ev_var rfl ⟨rfl, rfl⟩) (by rw [sizeLine_eq]; omega) (fun v hv => ?_) ?_)))
    · dsimp only [wipeD, List.set]
      walk_at "ev"
      exact ⟨_, rfl, rfl, rfl⟩
    walk_at "ev"
    refine od_inT (neg := false) ?_
    refine ⟨_, rfl, ?_⟩
    rw [if_neg Bool.false_ne_true]
    have hm2 : (clu K l dx p q s (dead ++ [x]) (done ++ [(x, ((mny s dead : Nat) : Int))])) = (clu K l dx p q s (dead ++ [x]) (done ++ [(x, ((mny s dead : Nat) : Int))])) ++ [] := (List.append_nil _).symm
    refine ite_dec (fun h => ?_) (fun h => ?_)
    · rw [if_pos h] at hown2 ⊢
      walk_at "ev"
      refine ⟨by rw [sizeLine_eq]; show 1 ≤ _; omega, ?_⟩
      refine od_addT (by
        rw [show (dts (F.filter fun y => !decide (y = x))).length = (F.filter fun y => !decide (y = x)).length from List.length_map .., sizeLine_eq]
        have := List.length_filter_le (fun y => !decide (y = x)) F
        show _ + 1 ≤ _
        omega) ?_
      have e9 : dts (F.filter fun y => !decide (y = x)) ++ [PyData.int nw] = dts ((F.filter fun y => !decide (y = x)) ++ [nw]) := by
        rw [dts, dts, List.map_append]
        rfl
      rw [e9, ← hown2]
      walk_at "ev"
      refine ev_meth ?_
      walk_at "ev"
      refine ⟨l, 0, dx, _, rfl, rfl, f_no (by decide), ?_⟩
      walk_at "ev"
      refine ⟨_, [], hm2, rfl, l, dx, p, q, s, dead ++ [x], _, z, rfl, rfl, ok, dk2, hz, ?_⟩
      dsimp only [List.cons_append, List.nil_append]
      walk_at "ev"
      refine od_neT ?_
      refine ⟨_, rfl, ite_nno rfl ?_⟩
      walk_at "ev"
      refine od_isN_no (n := "int") rfl (by decide) ?_
      walk_at "ev"
      refine od_inT (neg := true) ?_
      rw [if_pos rfl, decide_eq_true h]
      refine od_neB ?_
      refine ⟨_, rfl, ?_⟩
      refine iteF ?_
      walk_at "ev"
      exact Wk.of ⟨rfl, _, _, _, _, _, _, _, _, _, _, _, _, _, _, rfl⟩
    · rw [if_neg h] at hown2 ⊢
      rw [← hown2]
      walk_at "ev"
      refine ev_meth ?_
      walk_at "ev"
      refine ⟨l, 0, dx, _, rfl, rfl, f_no (by decide), ?_⟩
      walk_at "ev"
      refine ⟨_, [], hm2, rfl, l, dx, p, q, s, dead ++ [x], _, z, rfl, rfl, ok, dk2, hz, ?_⟩
      dsimp only [List.cons_append, List.nil_append]
      walk_at "ev"
      refine od_neT ?_
      refine ⟨_, rfl, ite_nno rfl ?_⟩
      walk_at "ev"
      refine od_isN_non ?_
      walk_at "ev"
      refine od_inT (neg := true) ?_
      rw [if_pos rfl, decide_eq_false (by rw [hown2]; exact h)]
      refine od_neB ?_
      refine ⟨_, rfl, ?_⟩
      refine iteF ?_
      walk_at "ev"
      exact Wk.of ⟨rfl, _, _, _, _, _, _, _, _, _, _, _, _, _, _, rfl⟩
  · rintro m' ρ' ⟨rfl, x8, x13, x14, x15, x16, x17, y4, y5, y6, y7, y9, y10, y11, y12, rfl⟩
    walk_at "ev"
    exact rt_keys rfl qq
end
end Tx

set_option Elab.async false
set_option linter.all false
set_option maxRecDepth 100000
set_option maxHeartbeats 2000000
set_option exponentiation.threshold 9000
namespace Tx
open PySem PySem.Spec PyProof.Rows L2 DL EM
/-! ### tactics -/
local macro_rules | `(tactic| walk_at "ev1") => `(tactic| first
  | with_reducible refine sv_seq ?_
  | with_reducible refine sv_ret ?_
  | with_reducible refine sv_retN ?_
  | with_reducible refine sv_asgSub ?_
  | with_reducible refine sv_asg ?_
  | with_reducible refine sv_drop ?_
  | with_reducible refine sv_if ?_
  | with_reducible refine sv_next ?_
  | with_reducible refine gv_name ?_
  | with_reducible refine ev_int ?_
  | with_reducible refine ev_bl ?_
  | with_reducible refine ev_str ?_
  | with_reducible refine ev_non ?_
  | with_reducible refine ev_ty ?_
  | with_reducible refine ev_op ?_
  | with_reducible refine ev_un ?_
  | with_reducible refine ev_if ?_
  | with_reducible refine ev_andV ?_
  | with_reducible refine ev_orV ?_
  | with_reducible refine ev_notV ?_
  | with_reducible refine ev_chain ?_
  | with_reducible refine ev_ofL (el_sortedSet ?_)
  | with_reducible refine ev_big ?_
  | with_reducible refine ev_cb ?_
  | with_reducible refine ev_fld ?_
  | with_reducible refine ev_tup ?_
  | with_reducible refine ev_sl ?_
  | with_reducible refine et_test ?_
  | with_reducible refine et_B ?_
  | with_reducible refine et_and ?_
  | with_reducible refine et_or ?_
  | with_reducible refine et_not ?_
  | with_reducible refine et_yes ?_
  | with_reducible refine ea_nil ?_
  | with_reducible refine ea_cons ?_
  | with_reducible refine eo_none ?_
  | with_reducible refine eo_some ?_
  | refine ev_var rfl ?_
  | with_reducible refine od_add ?_
  | with_reducible refine od_sub ?_
  | with_reducible refine od_lt ?_
  | with_reducible refine od_le ?_
  | with_reducible refine od_gt ?_
  | with_reducible refine od_ge ?_
  | with_reducible refine od_eqI ?_
  | with_reducible refine od_neI ?_
  | with_reducible refine cd_lenT ?_
  | with_reducible refine cd_lenL ?_
  | with_reducible refine cd_abs ?_
  | with_reducible refine cd_max2 ?_
  | with_reducible refine cd_min2 ?_
  | with_reducible refine cd_intB ?_
  | with_reducible refine cd_tupL ?_
  | with_reducible refine iteT ?_
  | with_reducible refine iteF ?_)
local macro_rules | `(tactic| walk_at "ev") => `(tactic| repeat (first | walk_at "ev1" | (dsimp only [List.set, List.nil_append])))
section
variable {w : World} {K : PySem.W.Frag} {Sok : List V → Prop}
section
variable {W : Wd} {m : M} {P : PD} {d : D} {ρ : Names} {te te' : TE} {ta : TA} {D0 : AE}
theorem map_app2 {a b c d : M} (h : c.map (·.1) = a.map (·.1)) (k : d.map (·.1) = b.map (·.1)) : (c ++ d).map (·.1) = (a ++ b).map (·.1) := by rw [List.map_append, List.map_append, h, k]
theorem call_outT {U U' : Addr → Prop} {σ : L2.St} {H H2 : Hp} {mc mc' mr : M} (I : StU W U (mr ++ mc) ρ σ H) (J : StU (wd W.K W.Sok W.S mc H U) U' mc' [] [] H2) (e : mc'.map (·.1) = mc.map (·.1)) :
    StU W U (mr ++ mc') ρ σ H2 ∧ Go W (mr ++ mc) H (mr ++ mc') H2 := by
  obtain ⟨J2, g⟩ := call_out (I.perm List.perm_append_comm) J e
  refine ⟨J2.perm List.perm_append_comm, fun a o h n k => g.ex a o h n fun z => k ?_, map_app2 rfl e⟩
  rw [List.map_append, List.mem_append] at z ⊢
  exact z.symm
theorem ev_callT {n : Nat} {pre : Pre} {E : XK} (h : EvA W ta m ρ fun ds m1 => ∃ mc mr, m1 = mr ++ mc ∧ ds.length = n ∧ pre W.S ds mc fun d mc' => P d (mr ++ mc')) : Ev W (tCall (spD W.K W.Sok n pre) [] E ta) m ρ P := fun U σ H I Q k =>
  h U σ H I _ fun vs ds m1 H1 e1 I1 r1 ⟨mc, mr, em, hn, p1⟩ => by
    subst em
    rw [List.append_nil]
    refine ⟨W.S, U, ds, mc, _, hn, call_in (I1.perm List.perm_append_comm), r1, p1, fun U' v d mc' H2 J e rv q => ?_⟩
    obtain ⟨J2, g⟩ := call_outT I1 J e
    exact k v d _ H2 (e1.trans g) J2 (rv.weak J.u0) q
theorem ev_methT {n : Nat} {pre : Pre} {E : XK} {C : Addr} {x : Str} (h : Ev W te m ρ fun d m0 => ∃ (l : Addr) (i : Nat) (dx : Addr) (fs : List (Str × D)), d = ob l ∧ m0[i]? = some (l, .ins C dx fs) ∧ fs.lookup x = none ∧
    EvA W ta m0 ρ fun ds m1 => ∃ mc mr, m1 = mr ++ mc ∧ (ob l :: ds).length = n ∧ pre W.S (ob l :: ds) mc fun d mc' => P d (mr ++ mc')) : Ev W (tMeth C x (spD W.K W.Sok n pre) [] E te ta) m ρ P := fun U σ H I Q k =>
  h U σ H I _ fun v0 d0 m0 H0 g0 I0 r0 ⟨l, i, dx, fs, ed, hm, hl, p0⟩ => by
    subst ed
    have z := ob_inv r0
    subst z
    obtain ⟨_, _, xs, hx, rk⟩ := I0.at_ hm
    refine ⟨l, dx, xs, rfl, hx, rk.lookupN hl, p0 U σ H0 I0 _ fun vs ds m1 H1 e1 I1 r1 ⟨mc, mr, em, hn, p1⟩ => ?_⟩
    subst em
    rw [List.append_nil]
    refine ⟨W.S, U, ob l :: ds, mc, _, hn, call_in (I1.perm List.perm_append_comm), .cons (.ob l) r1, p1, fun U' v d mc' H2 J e rv q => ?_⟩
    obtain ⟨J2, g⟩ := call_outT I1 J e
    exact k v d _ H2 ((g0.trans e1).trans g) J2 (rv.weak J.u0) q
/-- (a, C(..)) stored to two names -/
theorem sv_tup2X {i j : Nat} (h : Ev W te m ρ fun a m1 => EvX W te' m1 ρ fun b nw m2 => D0.nx (nw ++ m2) ((ρ.set i (some a)).set j (some b))) : Sv W (tAsg (tTup (tCons te (tCons te' tNil))) (gTup W.K 2 (gCons (gName i) (gCons (gName j) gNil)))) m ρ D0 := fun U σ H I E k =>
  h U σ H I _ fun v a m1 H1 g I1 r1 q1 => q1 U σ H1 I1 _ fun U' v' b nw m2 H2 _ f ks J r2 q => ⟨by rw [sizeLine_eq]; show 2 ≤ _; omega, fun p hp => by
    have J2 := J.new (o := .tup [v, v']) hp
    have f2 : Fut U' H2 U' (upd H2 p (.tup [v, v'])) := Fut.of (ExU.new hp)
    exact ⟨p, [v, v'], rfl, .inl (.inl upd_same), rfl, _, _, rfl, _, _, rfl, rfl, k.nx U' _ _ _ _ (((Fut.of (g.exU I)).trans f).trans f2) ((J2.set ((r1.fut I1.uok f).fut J.uok f2) i).set (r2.fut J.uok f2) j) q⟩⟩
end
/-! lists of tuples of ints -/
abbrev nst (f : Int → List Int) (xs : List Int) : List D := xs.map fun y => .tuple (dts (f y))
theorem nst_plain (f : Int → List Int) : ∀ xs : List Int, plainAll (nst f xs) = true
  | [] => rfl
  | x :: xs => by show (plainAll (dts (f x)) && plainAll (nst f xs)) = true; rw [plain_dts, nst_plain f xs]; rfl
theorem nst_lay (f : Int → List Int) : ∀ xs : List Int, PyData.canLayAll0 (nst f xs) = true
  | [] => by simp [PyData.canLayAll0]
  | x :: xs => by
    show PyData.canLayAll0 (.tuple (dts (f x)) :: nst f xs) = true
    rw [PyData.canLayAll0, nst_lay f xs, PyData.canLay0, lay_dts]
    rfl
theorem nst_depth (f : Int → List Int) : ∀ xs : List Int, PyData.depthAll (nst f xs) ≤ 1
  | [] => by simp [PyData.depthAll]
  | x :: xs => by
    have := nst_depth f xs
    show PyData.depthAll (.tuple (dts (f x)) :: nst f xs) ≤ 1
    rw [PyData.depthAll, PyData.depth, depth_dts]
    omega
theorem nst_eqv (f : Int → List Int) : ∀ xs : List Int, PyData.eqvAll (nst f xs) (nst f xs) = true
  | [] => by simp [PyData.eqvAll]
  | x :: xs => by
    show PyData.eqvAll (.tuple (dts (f x)) :: nst f xs) (.tuple (dts (f x)) :: nst f xs) = true
    rw [PyData.eqvAll, nst_eqv f xs, eqv_dtsT]
    simp
theorem nst_shaped (f : Int → List Int) (xs : List Int) : SeqAt.shaped (.list (nst f xs)) = true := by
  have h := nst_depth f xs
  unfold SeqAt.shaped
  rw [PyData.canLay0, nst_lay, PyData.depth]
  simp
  omega
end
end Tx

set_option Elab.async false
set_option linter.all false
set_option maxRecDepth 100000
set_option maxHeartbeats 2000000
set_option exponentiation.threshold 9000
namespace Tx
open PySem PySem.Spec PyProof.Rows L2 DL EM
/-! ### tactics -/
local macro_rules | `(tactic| walk_at "ev1") => `(tactic| first
  | with_reducible refine sv_seq ?_
  | with_reducible refine sv_ret ?_
  | with_reducible refine sv_retN ?_
  | with_reducible refine sv_asgSub ?_
  | with_reducible refine sv_asg ?_
  | with_reducible refine sv_drop ?_
  | with_reducible refine sv_if ?_
  | with_reducible refine sv_next ?_
  | with_reducible refine gv_name ?_
  | with_reducible refine ev_int ?_
  | with_reducible refine ev_bl ?_
  | with_reducible refine ev_str ?_
  | with_reducible refine ev_non ?_
  | with_reducible refine ev_ty ?_
  | with_reducible refine ev_op ?_
  | with_reducible refine ev_un ?_
  | with_reducible refine ev_if ?_
  | with_reducible refine ev_andV ?_
  | with_reducible refine ev_orV ?_
  | with_reducible refine ev_notV ?_
  | with_reducible refine ev_chain ?_
  | with_reducible refine ev_ofL (el_sortedSet ?_)
  | with_reducible refine ev_big ?_
  | with_reducible refine ev_cb ?_
  | with_reducible refine ev_fld ?_
  | with_reducible refine ev_tup ?_
  | with_reducible refine ev_sl ?_
  | with_reducible refine et_test ?_
  | with_reducible refine et_B ?_
  | with_reducible refine et_and ?_
  | with_reducible refine et_or ?_
  | with_reducible refine et_not ?_
  | with_reducible refine et_yes ?_
  | with_reducible refine ea_nil ?_
  | with_reducible refine ea_cons ?_
  | with_reducible refine eo_none ?_
  | with_reducible refine eo_some ?_
  | refine ev_var rfl ?_
  | with_reducible refine od_add ?_
  | with_reducible refine od_sub ?_
  | with_reducible refine od_lt ?_
  | with_reducible refine od_le ?_
  | with_reducible refine od_gt ?_
  | with_reducible refine od_ge ?_
  | with_reducible refine od_eqI ?_
  | with_reducible refine od_neI ?_
  | with_reducible refine cd_lenT ?_
  | with_reducible refine cd_lenL ?_
  | with_reducible refine cd_abs ?_
  | with_reducible refine cd_max2 ?_
  | with_reducible refine cd_min2 ?_
  | with_reducible refine cd_intB ?_
  | with_reducible refine cd_tupL ?_
  | with_reducible refine iteT ?_
  | with_reducible refine iteF ?_)
local macro_rules | `(tactic| walk_at "ev") => `(tactic| repeat (first | walk_at "ev1" | (dsimp only [List.set, List.nil_append])))
section
variable {w : World} {K : PySem.W.Frag} {Sok : List V → Prop}
/-! the law -/
def pre_law : Pre := fun S ds mc P => ∃ ns : List Int, ds = [scr ns] ∧ mc = [] ∧ P (.bool true) []
theorem take_snoc {G : List Int} {i : Nat} {x : Int} (h : G[i]? = some x) : G.take (i + 1) = G.take i ++ [x] := by rw [List.take_add_one, h]; rfl
theorem not_in_take {G : List Int} (h : G.Nodup) {i : Nat} {x : Int} (e : G[i]? = some x) : x ∉ G.take i := fun z => by
  obtain ⟨j, hj, ej⟩ := List.getElem_of_mem z
  rw [List.length_take] at hj
  rw [List.getElem_take] at ej
  obtain ⟨hi, ei⟩ := List.getElem?_eq_some_iff.mp e
  have := (List.getElem_inj h).mp (ej.trans ei.symm)
  omega
theorem pure_law : Pure Sok K 1 N_law (t_law w K Sok pre_law_stream pre_law_draw pre_law_least (pre_Cluster_init K) pre_law_shuffled pre_law_shards (pre_Cluster_owners K) (pre_law_fails K) (pre_Cluster_recover K) (pre_Cluster_load K) (pre_Cluster_live K)) pre_law := by
  rintro S _ _ P H U _ ⟨ns, rfl, rfl, qq⟩
  unfold t_law
  show Sv _ _ [] [some (scr ns), none, none, none, none, none, none, none, none, none, none, none, none, none] _
  walk_at "ev"
  refine sv_for (ei_r1 ?_)
  walk_at "ev"
  refine cd_lenR ?_
  walk_at "ev"
  refine ⟨_, rfl, by omega, by omega, fun i m' ρ' => m' = [] ∧ ∃ x1 x2 x3 x4 x5 x6 x7 x8 x9 y0 y1 y2 y3, ρ' = [some (scr ns), x1, x2, x3, x4, x5, x6, x7, x8, x9, y0, y1, y2, y3], ⟨rfl, _, _, _, _, _, _, _, _, _, _, _, _, _, rfl⟩, ?_, ?_⟩
  · rintro i d m' ρ' hd ⟨rfl, x1, x2, x3, x4, x5, x6, x7, x8, x9, y0, y1, y2, y3, rfl⟩
    obtain ⟨hi, rfl⟩ := rng_get hd
    refine gv_name ?_
    refine sv_seq (sv_asgM (el_callM ?_))
    walk_at "ev"
    refine ⟨[], [], rfl, rfl, ns, i, by simp, rfl, by omega, fun a b a1 a2 b1 b2 => ⟨_, rfl, fun pt => ?_⟩⟩
    refine sv_mle (mle_pot a1 a2 b1 b2 (MLe.refl _)) ?_
    dsimp only [List.set, List.nil_append]
    clear a1 a2 b1 b2
    -- n
    walk_at "ev"
    refine ev_callM ?_
    walk_at "ev"
    refine ⟨[pot pt], [], rfl, rfl, pt, _, rfl, rfl, by decide, by decide, fun v v1 v2 => ?_⟩
    dsimp only [List.cons_append, List.nil_append]
    obtain ⟨n, hn⟩ : ∃ n : Nat, (20 : Int) + v = n := ⟨(20 + v).toNat, by omega⟩
    walk_at "ev"
    rw [hn]
    have n1 : 20 ≤ n := by omega
    have n2 : n ≤ 60 := by omega
    clear hn v1 v2
    -- down, copies
    refine sv_par ?_
    walk_at "ev"
    refine ev_callM ?_
    walk_at "ev"
    refine ⟨[pot pt], [], rfl, rfl, pt, _, rfl, rfl, by decide, by decide, fun v1 a1 a2 => ?_⟩
    dsimp only [List.cons_append, List.nil_append]
    walk_at "ev"
    refine ev_callM ?_
    walk_at "ev"
    refine ⟨[pot pt], [], rfl, rfl, pt, _, rfl, rfl, by decide, by decide, fun v2 b1 b2 => ?_⟩
    dsimp only [List.cons_append, List.nil_append]
    obtain ⟨f, hf⟩ : ∃ f : Nat, (1 : Int) + v1 = f := ⟨(1 + v1).toNat, by omega⟩
    obtain ⟨g, hg⟩ : ∃ g : Nat, (1 : Int) + v2 = g := ⟨(1 + v2).toNat, by omega⟩
    walk_at "ev"
    refine ⟨_, _, rfl, ?_⟩
    rw [hf, hg]
    have f1 : 1 ≤ f := by omega
    have f2 : f ≤ 5 := by omega
    have g1 : 1 ≤ g := by omega
    have g2 : g ≤ 5 := by omega
    clear hf hg a1 a2 b1 b2
    -- total
    walk_at "ev"
    refine ev_call ?_
    walk_at "ev"
    refine ⟨rfl, n, f + g, by rw [show min (n : Int) ((f : Int) + (g : Int)) = ((f + g : Nat) : Int) by omega], rfl, by omega, n2, by omega, ?_⟩
    dsimp only [List.cons_append, List.nil_append]
    walk_at "ev"
    refine ev_callM ?_
    walk_at "ev"
    refine od_powW (by decide +kernel) ?_
    walk_at "ev"
    refine ⟨[pot pt], [], rfl, rfl, pt, _, rfl, rfl, by decide +kernel, by decide +kernel, fun v v1 v2 => ?_⟩
    dsimp only [List.cons_append, List.nil_append]
    walk_at "ev"
    have v3 : v < 2 ^ 40 := Int.lt_trans v2 (by decide +kernel)
    have hLL : LL n (f + g) < 2 ^ 1000 := Nat.lt_of_lt_of_le (LL_lt n2 _) (Nat.pow_le_pow_right (by decide) (by omega))
    have hLL0 : 0 < LL n (f + g) := LL_pos (by omega)
    refine od_mul (wide_mul (a := 1000) (b := 62) (by rw [Int.natAbs_natCast]; exact hLL) (by omega) (by decide) (by decide) (by decide)) ?_
    obtain ⟨c, hc⟩ : ∃ c : Nat, c = LL n (f + g) * (1 + v.toNat) := ⟨_, rfl⟩
    have hcI : ((LL n (f + g) : Nat) : Int) * (1 + v) = (c : Int) := by
      rw [hc, Int.natCast_mul]
      congr 1
      omega
    rw [hcI]
    have c1 : LL n (f + g) ∣ c := ⟨_, hc⟩
    have c0 : 0 < c := by rw [hc]; exact Nat.mul_pos hLL0 (by omega)
    have c2 : c < 2 ^ 7000 := by
      have h1 : c < 2 ^ 1000 * 2 ^ 62 := by rw [hc]; exact Nat.mul_lt_mul'' hLL (by omega)
      rw [← Nat.pow_add] at h1
      exact Nat.lt_trans h1 (Nat.pow_lt_pow_right (by decide) (by decide))
    clear hc hcI hLL hLL0 v1 v2 v3
    obtain ⟨s, hs⟩ : ∃ s : CS, s = ⟨n, f, g, c, f + g⟩ := ⟨_, rfl⟩
    have ok : s.Ok := by subst hs; exact ⟨by show 2 ≤ n; omega, n2, f1, by show f ≤ n - 1; omega, g1, by show g ≤ n; omega, by show f + g = min n (f + g); omega, c1, c0, c2⟩
    have en : n = s.n := by rw [hs]
    have ef : f = s.f := by rw [hs]
    have eg : g = s.g := by rw [hs]
    have ec : c = s.c := by rw [hs]
    clear hs
    subst en ef eg ec
    refine gv_name ?_
    dsimp only [List.set]
    -- the cluster
    refine sv_seq (sv_tup2X ?_)
    walk_at "ev"
    refine ⟨by rw [sizeLine_eq]; show 4 ≤ _; omega, ?_⟩
    refine evx_make ?_
    walk_at "ev"
    refine ⟨[], [pot pt], rfl, rfl, fun l dx => ⟨l, dx, s, rfl, rfl, ok, fun p q => ⟨rfl, _, [], rfl, ?_⟩⟩⟩
    dsimp only [List.set, List.cons_append, List.nil_append]
    refine sv_perm (m' := pot pt :: clu K l dx p q s [] []) ?_ ?_
    · refine (List.perm_append_comm (l₁ := [(q, MO.lst []), (p, MO.dK []), (l, MO.ins (cC_Cluster K) dx (flds s p q))]) (l₂ := [pot pt])).trans ?_
      refine List.Perm.cons _ ?_
      show List.Perm [(q, MO.lst []), (p, MO.dK []), (l, MO.ins (cC_Cluster K) dx (flds s p q))] [(l, MO.ins (cC_Cluster K) dx (flds s p q)), (p, MO.dK []), (q, MO.lst [])]
      exact (List.reverse_perm _).symm
    -- gone
    refine sv_seq (sv_asg (ev_sl (ev_ofL (el_callM ?_))))
    walk_at "ev"
    refine ev_ofL (el_listRg (er_1 ?_))
    walk_at "ev"
    refine ⟨_, rfl, RgOk.of_le (by omega) (by omega) (by omega) (by omega), ?_⟩
    rw [rgD_dts]
    walk_at "ev"
    refine ⟨[pot pt], clu K l dx p q s [] [], rfl, rfl, pt, rg s.n, rfl, rfl, by rw [rg_length]; omega, fun ys hys => ⟨_, rfl, ?_⟩⟩
    dsimp only [List.cons_append, List.nil_append]
    walk_at "ev"
    refine ⟨_, rfl, sd_L ?_⟩
    rw [cut_take _ (by omega), show ((s.f : Int)).toNat = s.f by omega, show (dts ys).take s.f = dts (ys.take s.f) from (List.map_take ..).symm]
    have hyl : ys.length = s.n := by rw [hys.length_eq, rg_length]
    obtain ⟨G, hG⟩ : ∃ G, G = ys.take s.f := ⟨_, rfl⟩
    have G1 : G.length = s.f := by rw [hG, List.length_take]; omega
    have G2 : G.Nodup := by
      rw [hG]
      exact (hys.nodup_iff.mpr (asc_nodup (rg_asc _))).sublist (List.take_sublist _ _)
    have G3 : ∀ x ∈ G, 0 ≤ x ∧ x < s.n := fun x hx => by
      rw [hG] at hx
      exact rg_mem.mp (hys.mem_iff.mp (List.mem_of_mem_take hx))
    rw [← hG]
    clear hG hys hyl
    have dok0 : DOk s [] := ⟨.nil, fun _ h => (nomatch h), Nat.zero_le _⟩
    have dokT : ∀ i, DOk s (G.take i) := fun i => ⟨G2.sublist (List.take_sublist _ _), fun x hx => G3 x (List.mem_of_mem_take hx), by rw [List.length_take]; omega⟩
    -- some
    obtain ⟨x0, hx0⟩ : ∃ x0, G[0]? = some x0 := ⟨_, List.getElem?_eq_getElem (show 0 < G.length by omega)⟩
    obtain ⟨p1, p2⟩ := G3 x0 (List.mem_of_getElem? hx0)
    walk_at "ev"
    refine ev_callM ?_
    walk_at "ev"
    refine od_ixL (d := .int x0) (atI_dts (i := 0) hx0) ?_
    walk_at "ev"
    refine ⟨[pot pt], clu K l dx p q s [] [], rfl, rfl, pt, s, x0.toNat, by rw [Int.toNat_of_nonneg p1], rfl, ok, by omega, fun sm sm1 sm2 => ?_⟩
    dsimp only [List.cons_append, List.nil_append]
    have hsl : sm.length ≤ sizeLine := by rw [sizeLine_eq]; omega
    -- held
    refine gv_name ?_
    dsimp only [List.set]
    have comp : ∀ (ρ : Names) (m0 : M) (done : List (Int × Int)) (P' : PD), ρ[8]? = some (some (ob l)) → ρ[10]? = some (some (.list (dts sm))) → ρ.length = 14 → P' (.list (nst (fun y => own s [] y.toNat) sm)) (pot pt :: clu K l dx p q s [] done) →
        Ev (wd K Sok S [] H U) (tLc (iAny K (tVar 10)) (gName 13) tYes (tMeth (cC_Cluster K) "owners" (spD K Sok 2 (pre_Cluster_owners K)) [] E0 (tVar 8) (tCons (tVar 13) tNil)) [13]) (pot pt :: clu K l dx p q s [] done) ρ P' := by
      intro ρ m0 done P' h8 h10 hl hP
      refine ev_ofL (el_lcMap (f := fun y => .tuple (dts (own s [] y.toNat))) (ev_var h10 ⟨rfl, rfl⟩) hsl (fun y hy => ?_) hP)
      obtain ⟨y0, y1⟩ := sm2 y hy
      refine ev_methT (ev_var (d := ob l) ?_ ?_)
      · show ((ρ.set 13 none).set 13 _)[8]? = _
        rw [List.getElem?_set_ne (by decide), List.getElem?_set_ne (by decide)]
        exact h8
      refine ⟨l, 1, dx, _, rfl, rfl, f_no (by decide), ?_⟩
      refine ea_cons (ev_var (d := .int y) ?_ (ea_nil ?_))
      · show ((ρ.set 13 none).set 13 _)[13]? = _
        rw [List.getElem?_set_self (by rw [List.length_set]; omega)]
      exact ⟨clu K l dx p q s [] done, [pot pt], rfl, rfl, l, dx, p, q, s, [], done, y.toNat, by rw [Int.toNat_of_nonneg y0], rfl, ok, dok0, by omega, rfl, rfl⟩
    refine sv_seq (sv_asg (comp _ [] [] _ rfl rfl rfl ?_))
    refine gv_name ?_
    dsimp only [List.set]
    -- the failures
    refine sv_seq (sv_for (ei_L ?_))
    walk_at "ev"
    refine ⟨_, rfl, fun i m' ρ' => ∃ done : List (Int × Int), done.length = i ∧ m' = pot pt :: clu K l dx p q s (G.take i) done ∧ ∃ x1 x4 x5 x6 x12 x13, ρ' = [some (scr ns), x1, some (ob pt), some (.int s.n), x4, x5, x6, some (szs s), some (ob l), some (.list (dts G)), some (.list (dts sm)), some (.list (nst (fun y => own s [] y.toNat) sm)), x12, x13], ⟨[], rfl, rfl, _, _, _, _, _, _, rfl⟩, ?_, ?_⟩
    · rintro i d m' ρ' hd ⟨done, hdl, rfl, x1, x4, x5, x6, x12, x13, rfl⟩
      obtain ⟨x, hx, rfl⟩ := dts_get hd
      have hiG : i < G.length := (List.getElem?_eq_some_iff.mp hx).1
      obtain ⟨q1, q2⟩ := G3 x (List.mem_of_getElem? hx)
      refine gv_name ?_
      dsimp only [List.set]
      walk_at "ev"
      refine ev_callT ?_
      walk_at "ev"
      refine ev_callM ?_
      walk_at "ev"
      refine ⟨[pot pt], clu K l dx p q s (G.take i) done, rfl, rfl, pt, s, x.toNat, by rw [Int.toNat_of_nonneg q1]; rfl, rfl, ok, by omega, fun zs z1 z2 => ?_⟩
      dsimp only [List.cons_append, List.nil_append]
      walk_at "ev"
      refine ⟨_, rfl, sd_L ?_⟩
      rw [cut_take _ (by decide), show (dts zs).take (Int.toNat 3) = dts (zs.take 3) from (List.map_take ..).symm]
      refine od_addL (by
        rw [show (dts sm).length = sm.length from List.length_map .., show (dts (zs.take 3)).length = (zs.take 3).length from List.length_map .., List.length_take, sizeLine_eq]
        omega) ?_
      rw [show dts sm ++ dts (zs.take 3) = dts (sm ++ zs.take 3) from (List.map_append ..).symm]
      walk_at "ev"
      refine ⟨clu K l dx p q s (G.take i) done, [pot pt], rfl, rfl, l, dx, p, q, s, G.take i, done, x, sm ++ zs.take 3, rfl, rfl, ok, dokT i, q1, q2, not_in_take G2 hx, by rw [List.length_take]; omega, by omega, by omega, by rw [List.length_append, List.length_take]; omega, fun y hy => ?_, ?_⟩
      · rcases List.mem_append.mp hy with h | h
        · exact sm2 y h
        · exact z2 y (List.mem_of_mem_take h)
      refine ⟨_, rfl, ?_⟩
      refine iteF ?_
      walk_at "ev"
      rw [← take_snoc hx]
      exact Wk.of ⟨_, by rw [List.length_append, hdl]; rfl, rfl, _, _, _, _, _, _, rfl⟩
    rintro m' ρ' ⟨done, hdl, rfl, x1, x4, x5, x6, x12, x13, rfl⟩
    rw [show (dts G).length = G.length from List.length_map ..] at hdl ⊢
    rw [List.take_of_length_le (Nat.le_refl _)]
    -- the recoveries
    refine sv_seq (sv_for (ei_L (ev_ofL (el_callM ?_))))
    walk_at "ev"
    refine ⟨[pot pt], clu K l dx p q s G done, rfl, rfl, pt, G, rfl, rfl, by omega, fun ys hys => ⟨_, rfl, ?_⟩⟩
    dsimp only [List.cons_append, List.nil_append]
    have yn : ys.Nodup := hys.nodup_iff.mpr G2
    refine ⟨_, rfl, fun i m' ρ' => (∃ (dead : List Int) (done : List (Int × Int)), done.length = G.length + i ∧ (∀ x, x ∈ dead ↔ x ∈ G ∧ x ∉ ys.take i) ∧ DOk s dead ∧ m' = pot pt :: clu K l dx p q s dead done) ∧ ∃ x1 x4 x5 x6 x12 x13, ρ' = [some (scr ns), x1, some (ob pt), some (.int s.n), x4, x5, x6, some (szs s), some (ob l), some (.list (dts G)), some (.list (dts sm)), some (.list (nst (fun y => own s [] y.toNat) sm)), x12, x13], ⟨⟨G, done, hdl, fun x => by simp, ⟨G2, G3, by omega⟩, rfl⟩, _, _, _, _, _, _, rfl⟩, ?_, ?_⟩
    · rintro i d m' ρ' hd ⟨⟨dead, done, hdl, hdd, dk, rfl⟩, x1, x4, x5, x6, x12, x13, rfl⟩
      obtain ⟨x, hx, rfl⟩ := dts_get hd
      have hiG : i < ys.length := (List.getElem?_eq_some_iff.mp hx).1
      have hyl := hys.length_eq
      have hxG : x ∈ G := hys.mem_iff.mp (List.mem_of_getElem? hx)
      have hxd : x ∈ dead := (hdd x).mpr ⟨hxG, not_in_take yn hx⟩
      obtain ⟨q1, q2⟩ := G3 x hxG
      obtain ⟨dk2, hx2⟩ := wo_ok dk x
      refine gv_name ?_
      dsimp only [List.set]
      walk_at "ev"
      refine ev_methT ?_
      walk_at "ev"
      refine ⟨l, 1, dx, _, rfl, rfl, f_no (by decide), ?_⟩
      walk_at "ev"
      refine ⟨clu K l dx p q s dead done, [pot pt], rfl, rfl, l, dx, p, q, s, dead, done, x, rfl, rfl, ok, dk, hxd, by omega, ?_⟩
      dsimp only [List.cons_append, List.nil_append]
      refine ev_methT ?_
      walk_at "ev"
      refine ⟨l, 1, dx, _, rfl, rfl, f_no (by decide), ?_⟩
      walk_at "ev"
      refine ⟨_, [pot pt], rfl, rfl, l, dx, p, q, s, wo dead x, _, x, rfl, rfl, ok, dk2, q1, q2, hx2, ?_⟩
      dsimp only [List.cons_append, List.nil_append]
      walk_at "ev"
      refine ⟨_, rfl, ite_nno rfl ?_⟩
      walk_at "ev"
      refine Wk.of ⟨⟨wo dead x, _, by rw [List.length_append, hdl]; rfl, fun z => ?_, dk2, rfl⟩, _, _, _, _, _, _, rfl⟩
      rw [take_snoc hx]
      unfold wo
      rw [List.mem_filter, hdd z, List.mem_append, List.mem_singleton]
      by_cases e : z = x
      · simp [e]
      · simp [e]
    rintro m' ρ' ⟨⟨dead, done2, hdl2, hdd, dk, rfl⟩, x1, x4, x5, x6, x12, x13, rfl⟩
    have hde : dead = [] := by
      refine List.eq_nil_iff_forall_not_mem.mpr fun x hx => ?_
      have := (hdd x).mp hx
      rw [show (dts ys).length = ys.length from List.length_map .., List.take_of_length_le (Nat.le_refl _)] at this
      exact this.2 (hys.mem_iff.mpr this.1)
    subst hde
    -- all as before
    refine sv_if (et_or (et_test (ev_op (comp _ [] _ _ rfl rfl rfl ?_))))
    walk_at "ev"
    refine od_neD (by show plainAll _ = true; exact nst_plain _ _) (by show plainAll _ = true; exact nst_plain _ _) (nst_shaped _ _) (nst_shaped _ _) ?_
    rw [PyData.eqv, nst_eqv]
    refine ⟨_, rfl, ?_⟩
    refine iteF ?_
    walk_at "ev"
    refine ev_methT ?_
    walk_at "ev"
    refine ⟨l, 1, dx, _, rfl, rfl, f_no (by decide), ?_⟩
    walk_at "ev"
    refine ⟨clu K l dx p q s [] done2, [pot pt], rfl, rfl, l, dx, p, q, s, [], done2, rfl, rfl, ok, ?_⟩
    dsimp only [List.cons_append, List.nil_append]
    refine ev_tupRg (er_1 ?_)
    walk_at "ev"
    have n2 := ok.n2
    refine ⟨_, rfl, RgOk.of_le (by omega) (by omega) (by omega) (by omega), ?_⟩
    rw [rgD_dts, outs_nil]
    refine od_neT ?_
    refine ⟨_, rfl, ite_nno rfl ?_⟩
    walk_at "ev"
    exact ⟨[], [], _, List.nil_sublist _, .nil, Less.refl _, rfl, _, _, _, _, _, _, _, _, _, _, _, _, _, rfl⟩
  · rintro m' ρ' ⟨rfl, x1, x2, x3, x4, x5, x6, x7, x8, x9, y0, y1, y2, y3, rfl⟩
    walk_at "ev"
    exact rt_nil qq
end
end Tx

set_option Elab.async false
set_option linter.all false
set_option maxRecDepth 100000
set_option maxHeartbeats 0
namespace Tx
open PySem PySem.Spec PyProof.Rows L2 DL
/-! ### the head: facts by names, the run -/
def d_law_stream : He.DefD := ⟨("_law_stream", none), "_law_stream", "_law_stream", defArgs s_law_stream, defBody s_law_stream, defScope s_law_stream, [], []⟩
def d_law_draw : He.DefD := ⟨("_law_draw", none), "_law_draw", "_law_draw", defArgs s_law_draw, defBody s_law_draw, defScope s_law_draw, [], []⟩
def d_law_comb : He.DefD := ⟨("_law_comb", none), "_law_comb", "_law_comb", defArgs s_law_comb, defBody s_law_comb, defScope s_law_comb, [], []⟩
def d_law_gcd : He.DefD := ⟨("_law_gcd", none), "_law_gcd", "_law_gcd", defArgs s_law_gcd, defBody s_law_gcd, defScope s_law_gcd, [], []⟩
def d_law_least : He.DefD := ⟨("_law_least", none), "_law_least", "_law_least", defArgs s_law_least, defBody s_law_least, defScope s_law_least, [], []⟩
def d_is_integer_cluster : He.DefD := ⟨("is_integer_cluster", none), "is_integer", "is_integer", defArgs s_is_integer_cluster, defBody s_is_integer_cluster, defScope s_is_integer_cluster, [], []⟩
def d_is_integer_numbers : He.DefD := ⟨("is_integer_numbers", none), "is_integer", "is_integer", defArgs s_is_integer_numbers, defBody s_is_integer_numbers, defScope s_is_integer_numbers, [], []⟩
def d_binomial : He.DefD := ⟨("binomial", none), "binomial", "binomial", defArgs s_binomial, defBody s_binomial, defScope s_binomial, [], []⟩
def d_edge_divisor : He.DefD := ⟨("edge_divisor", none), "edge_divisor", "edge_divisor", defArgs s_edge_divisor, defBody s_edge_divisor, defScope s_edge_divisor, [], []⟩
def d_common_divisor : He.DefD := ⟨("common_divisor", none), "common_divisor", "common_divisor", defArgs s_common_divisor, defBody s_common_divisor, defScope s_common_divisor, [], []⟩
def d_common_multiple : He.DefD := ⟨("common_multiple", none), "common_multiple", "common_multiple", defArgs s_common_multiple, defBody s_common_multiple, defScope s_common_multiple, [], []⟩
def d_least_lists : He.DefD := ⟨("least_lists", none), "least_lists", "least_lists", defArgs s_least_lists, defBody s_least_lists, defScope s_least_lists, [], []⟩
def d_is_possible : He.DefD := ⟨("is_possible", none), "is_possible", "is_possible", defArgs s_is_possible, defBody s_is_possible, defScope s_is_possible, [], []⟩
def d_Cluster_init : He.DefD := ⟨("Cluster", some "__init__"), "__init__", "Cluster.__init__", defArgs s_Cluster_init, defBody s_Cluster_init, defScope s_Cluster_init, [], []⟩
def d_law_shuffled : He.DefD := ⟨("_law_shuffled", none), "_law_shuffled", "_law_shuffled", defArgs s_law_shuffled, defBody s_law_shuffled, defScope s_law_shuffled, [], []⟩
def d_look_at_count : He.DefD := ⟨("look_at_count", none), "look_at_count", "look_at_count", defArgs s_look_at_count, defBody s_look_at_count, defScope s_look_at_count, [], []⟩
def d_outside : He.DefD := ⟨("outside", none), "outside", "outside", defArgs s_outside, defBody s_outside, defScope s_outside, [], []⟩
def d_with_server : He.DefD := ⟨("with_server", none), "with_server", "with_server", defArgs s_with_server, defBody s_with_server, defScope s_with_server, [], []⟩
def d_numbers_with : He.DefD := ⟨("numbers_with", none), "numbers_with", "numbers_with", defArgs s_numbers_with, defBody s_numbers_with, defScope s_numbers_with, [], []⟩
def d_law_shards : He.DefD := ⟨("_law_shards", none), "_law_shards", "_law_shards", defArgs s_law_shards, defBody s_law_shards, defScope s_law_shards, [], []⟩
def d_Cluster_live : He.DefD := ⟨("Cluster", some "live"), "live", "Cluster.live", defArgs s_Cluster_live, defBody s_Cluster_live, defScope s_Cluster_live, [], []⟩
def d_next_place : He.DefD := ⟨("next_place", none), "next_place", "next_place", defArgs s_next_place, defBody s_next_place, defScope s_next_place, [], []⟩
def d_walk : He.DefD := ⟨("walk", none), "walk", "walk", defArgs s_walk, defBody s_walk, defScope s_walk, [], []⟩
def d_list_at : He.DefD := ⟨("list_at", none), "list_at", "list_at", defArgs s_list_at, defBody s_list_at, defScope s_list_at, [], []⟩
def d_Cluster_order_of : He.DefD := ⟨("Cluster", some "order_of"), "order_of", "Cluster.order_of", defArgs s_Cluster_order_of, defBody s_Cluster_order_of, defScope s_Cluster_order_of, [], []⟩
def d_holders : He.DefD := ⟨("holders", none), "holders", "holders", defArgs s_holders, defBody s_holders, defScope s_holders, [], []⟩
def d_Cluster_owners : He.DefD := ⟨("Cluster", some "owners"), "owners", "Cluster.owners", defArgs s_Cluster_owners, defBody s_Cluster_owners, defScope s_Cluster_owners, [], []⟩
def d_Cluster_len : He.DefD := ⟨("Cluster", some "__len__"), "__len__", "Cluster.__len__", defArgs s_Cluster_len, defBody s_Cluster_len, defScope s_Cluster_len, [], []⟩
def d_Cluster_is_live : He.DefD := ⟨("Cluster", some "is_live"), "is_live", "Cluster.is_live", defArgs s_Cluster_is_live, defBody s_Cluster_is_live, defScope s_Cluster_is_live, [], []⟩
def d_Cluster_check_failure : He.DefD := ⟨("Cluster", some "check_failure"), "check_failure", "Cluster.check_failure", defArgs s_Cluster_check_failure, defBody s_Cluster_check_failure, defScope s_Cluster_check_failure, [], []⟩
def d_live_in : He.DefD := ⟨("live_in", none), "live_in", "live_in", defArgs s_live_in, defBody s_live_in, defScope s_live_in, [], []⟩
def d_successor_failures : He.DefD := ⟨("successor_failures", none), "successor", "successor", defArgs s_successor_failures, defBody s_successor_failures, defScope s_successor_failures, [], []⟩
def d_Cluster_successor : He.DefD := ⟨("Cluster", some "successor"), "successor", "Cluster.successor", defArgs s_Cluster_successor, defBody s_Cluster_successor, defScope s_Cluster_successor, [], []⟩
def d_Cluster_load : He.DefD := ⟨("Cluster", some "load"), "load", "Cluster.load", defArgs s_Cluster_load, defBody s_Cluster_load, defScope s_Cluster_load, [], []⟩
def d_Cluster_fail : He.DefD := ⟨("Cluster", some "fail"), "fail", "Cluster.fail", defArgs s_Cluster_fail, defBody s_Cluster_fail, defScope s_Cluster_fail, [], []⟩
def d_law_fails : He.DefD := ⟨("_law_fails", none), "_law_fails", "_law_fails", defArgs s_law_fails, defBody s_law_fails, defScope s_law_fails, [], []⟩
def d_Cluster_recover : He.DefD := ⟨("Cluster", some "recover"), "recover", "Cluster.recover", defArgs s_Cluster_recover, defBody s_Cluster_recover, defScope s_Cluster_recover, [], []⟩
def d_law : He.DefD := ⟨("law", none), "law", "law", defArgs s_law, defBody s_law, defScope s_law, [], []⟩
def fnD : List He.DefD := [d_law_stream, d_law_draw, d_law_comb, d_law_gcd, d_law_least, d_is_integer_cluster, d_is_integer_numbers, d_binomial, d_edge_divisor, d_common_divisor, d_common_multiple, d_least_lists, d_is_possible, d_Cluster_init, d_law_shuffled, d_look_at_count, d_outside, d_with_server, d_numbers_with, d_law_shards, d_Cluster_live, d_next_place, d_walk, d_list_at, d_Cluster_order_of, d_holders, d_Cluster_owners, d_Cluster_len, d_Cluster_is_live, d_Cluster_check_failure, d_live_in, d_successor_failures, d_Cluster_successor, d_Cluster_load, d_Cluster_fail, d_law_fails, d_Cluster_recover, d_law]
def faD : List He.Fa := [.glo "_law_stream", .glo "_law_draw", .glo "_law_comb", .glo "_law_gcd", .glo "_law_least", .glo "is_integer_cluster", .glo "is_integer_numbers", .glo "binomial", .glo "edge_divisor", .glo "common_divisor", .glo "common_multiple", .glo "least_lists", .glo "is_possible", .glo "_law_shuffled", .glo "look_at_count", .glo "outside", .glo "with_server", .glo "numbers_with", .glo "_law_shards", .glo "next_place", .glo "walk", .glo "list_at", .glo "holders", .glo "live_in", .glo "successor_failures", .glo "_law_fails", .glo "law", .free "len", .free "abs", .free "int", .free "range", .free "isinstance", .free "bool", .free "min", .free "list", .free "tuple", .free "sorted", .free "max", .free "zip", .cls "Cluster", .noat "Cluster" "depth", .noat "Cluster" "n", .noat "Cluster" "failures", .noat "Cluster" "factor", .noat "Cluster" "count", .noat "Cluster" "dead", .noat "Cluster" "done", .mkr "Cluster", .glo "Cluster", .meth "Cluster" "live", .meth "Cluster" "order_of", .meth "Cluster" "owners", .meth "Cluster" "__len__", .meth "Cluster" "is_live", .meth "Cluster" "check_failure", .meth "Cluster" "successor", .meth "Cluster" "load", .meth "Cluster" "fail", .meth "Cluster" "recover", .int "MOST_SERVERS" 60, .int "LEAST_SERVERS" 2]
def obsSG (g : Addr → Option Obj) : He.AlD × Bool := (He.obsD faD fnD (He.frG g (cStatics :: He.asD g 4)), He.eqO (PySem.W.nsIn (He.frG g (cStatics :: He.asD g 4)) cStatics BigT.keyDig) (some none))
def hkD : PySem.W.Hook where
  α := He.AlD × Bool
  obs := fun s => obsSG s.heap.get?
  val := fun _ => (He.valD fnD, true)
  says := fun _ h => ∃ K : PySem.W.Frag, K.In h ∧ He.SaysD faD fnD K ∧ PySem.W.nsIn K cStatics BigT.keyDig = some none
  of := fun _ _ e => ⟨_, He.frG_in, congrArg Prod.fst e, He.eqO_ok (congrArg Prod.snd e)⟩
  keeps := fun _ _ _ ⟨K, hK, c⟩ k => ⟨K, PySem.W.Frag.In.keeps hK k, c⟩
def obD (s : PySem.W.SharedT) : He.AlD × Bool := obsSG (HandSHeadRun.getT s)
theorem obD_eq (s : PySem.W.SharedT) : obD s = hkD.obs s.abs := congrArg obsSG (funext (HandSHeadRun.getT_eq s))
def looseD : List PySem.Str := (["_wall", "__name__", "FailoverError", "NoNumber", "NotPossible", "TooShort", "NoCluster", "NotLive", "NotDead", "TooFew", "is_integer", "is_integer_numbers", "binomial", "edge_divisor", "common_divisor", "common_multiple", "least_lists", "is_possible", "outside", "with_server", "look_at_count", "next_place", "walk", "list_at", "numbers_with", "holders", "live_in", "successor", "successor_failures", "LEAST_SERVERS"] : List PySem.Str) ++ (["MOST_SERVERS", "is_integer_cluster", "Cluster", "_law_stream", "_law_draw", "_law_shuffled", "_law_comb", "_law_gcd", "_law_least", "_law_fails", "_law_shards"] : List PySem.Str)
theorem runD (w : World) : HandSHeadRun.RunEq (PySem.W.OpenLaw.row PySem.Challenge.rw_evenfailover_k90_whole_great_failures_by) (PySem.W.view (PySem.W.OpenLaw.row PySem.Challenge.rw_evenfailover_k90_whole_great_failures_by).prog [49]) hkD obD 9000 looseD w := by
  intro os
  kernel_rfl
theorem factsD {w : World} {K : PySem.W.Frag} {h : Heap} {mg : Str → Option Value} {f : Addr} (X : K.In h) (G : h.Ns mainGlobals mg) (hfa : mg ("law" : Str) = some (.ref f)) (c : He.SaysD faD fnD K) (hL : PySem.W.nsIn K cStatics BigT.keyDig = some none) :
    ∃ fd : FuncData, (∀ (s : Shared) (v : Value), BindsTo s fd ⟨[v], []⟩ [("_law_script", v)]) ∧ ∀ base : Heap, K.In base → base.Ns mainGlobals mg → FnOk (PySem.Challenge.rw_evenfailover_k90_whole_great_failures_by).prog w K mg base CX0 11 f fd ["_law_script"] (spD K (fun _ => True) 1 pre_law) := by
  have fr : Free mg := List.forall_mem_cons.mpr ⟨He.free_ok X G (c.fact 27 (f := .free "len") rfl), List.forall_mem_cons.mpr ⟨He.free_ok X G (c.fact 28 (f := .free "abs") rfl), List.forall_mem_cons.mpr ⟨He.free_ok X G (c.fact 29 (f := .free "int") rfl), List.forall_mem_cons.mpr ⟨He.free_ok X G (c.fact 30 (f := .free "range") rfl), List.forall_mem_cons.mpr ⟨He.free_ok X G (c.fact 31 (f := .free "isinstance") rfl), List.forall_mem_cons.mpr ⟨He.free_ok X G (c.fact 32 (f := .free "bool") rfl), List.forall_mem_cons.mpr ⟨He.free_ok X G (c.fact 33 (f := .free "min") rfl), List.forall_mem_cons.mpr ⟨He.free_ok X G (c.fact 34 (f := .free "list") rfl), List.forall_mem_cons.mpr ⟨He.free_ok X G (c.fact 35 (f := .free "tuple") rfl), List.forall_mem_cons.mpr ⟨He.free_ok X G (c.fact 36 (f := .free "sorted") rfl), List.forall_mem_cons.mpr ⟨He.free_ok X G (c.fact 37 (f := .free "max") rfl), List.forall_mem_cons.mpr ⟨He.free_ok X G (c.fact 38 (f := .free "zip") rfl), (fun _ h => nomatch h)⟩⟩⟩⟩⟩⟩⟩⟩⟩⟩⟩⟩
  have cf_Cluster : CF_Cluster K := ⟨He.cls_ok (c.fact 39 (f := .cls "Cluster") rfl), List.forall_mem_cons.mpr ⟨He.noat_ok (c.fact 40 (f := .noat "Cluster" "depth") rfl), List.forall_mem_cons.mpr ⟨He.noat_ok (c.fact 41 (f := .noat "Cluster" "n") rfl), List.forall_mem_cons.mpr ⟨He.noat_ok (c.fact 42 (f := .noat "Cluster" "failures") rfl), List.forall_mem_cons.mpr ⟨He.noat_ok (c.fact 43 (f := .noat "Cluster" "factor") rfl), List.forall_mem_cons.mpr ⟨He.noat_ok (c.fact 44 (f := .noat "Cluster" "count") rfl), List.forall_mem_cons.mpr ⟨He.noat_ok (c.fact 45 (f := .noat "Cluster" "dead") rfl), List.forall_mem_cons.mpr ⟨He.noat_ok (c.fact 46 (f := .noat "Cluster" "done") rfl), (fun _ h => nomatch h)⟩⟩⟩⟩⟩⟩⟩⟩
  have hc_MOST_SERVERS : ∃ u, mg "MOST_SERVERS" = some u ∧ RelV (.int 60) u := by
    obtain ⟨t, e⟩ := He.int_ok X G (c.fact 59 (f := .int "MOST_SERVERS" 60) rfl)
    exact ⟨_, e, t, rfl⟩
  have hc_LEAST_SERVERS : ∃ u, mg "LEAST_SERVERS" = some u ∧ RelV (.int 2) u := by
    obtain ⟨t, e⟩ := He.int_ok X G (c.fact 60 (f := .int "LEAST_SERVERS" 2) rfl)
    exact ⟨_, e, t, rfl⟩
  obtain ⟨fd_law_stream, F_law_stream⟩ := c.def_ 0 (d := d_law_stream) rfl
  have g_law_stream := He.glo_ok X G (c.fact 0 (f := .glo "_law_stream") rfl)
  have b_law_stream : Binds K fd_law_stream ["_law_script", "_law_k"] [] := F_law_stream.bindsN fun _ _ _ _ _ _ us hl => match us, hl with | [_, _], _ => rfl
  obtain ⟨fd_law_draw, F_law_draw⟩ := c.def_ 1 (d := d_law_draw) rfl
  have g_law_draw := He.glo_ok X G (c.fact 1 (f := .glo "_law_draw") rfl)
  have b_law_draw : Binds K fd_law_draw ["_law_stream_here", "_law_below"] [] := F_law_draw.bindsN fun _ _ _ _ _ _ us hl => match us, hl with | [_, _], _ => rfl
  obtain ⟨fd_law_comb, F_law_comb⟩ := c.def_ 2 (d := d_law_comb) rfl
  have g_law_comb := He.glo_ok X G (c.fact 2 (f := .glo "_law_comb") rfl)
  have b_law_comb : Binds K fd_law_comb ["_law_n", "_law_k"] [] := F_law_comb.bindsN fun _ _ _ _ _ _ us hl => match us, hl with | [_, _], _ => rfl
  obtain ⟨fd_law_gcd, F_law_gcd⟩ := c.def_ 3 (d := d_law_gcd) rfl
  have g_law_gcd := He.glo_ok X G (c.fact 3 (f := .glo "_law_gcd") rfl)
  have b_law_gcd : Binds K fd_law_gcd ["_law_a", "_law_b"] [] := F_law_gcd.bindsN fun _ _ _ _ _ _ us hl => match us, hl with | [_, _], _ => rfl
  obtain ⟨fd_law_least, F_law_least⟩ := c.def_ 4 (d := d_law_least) rfl
  have g_law_least := He.glo_ok X G (c.fact 4 (f := .glo "_law_least") rfl)
  have b_law_least : Binds K fd_law_least ["_law_n", "_law_depth"] [] := F_law_least.bindsN fun _ _ _ _ _ _ us hl => match us, hl with | [_, _], _ => rfl
  obtain ⟨fd_is_integer_cluster, F_is_integer_cluster⟩ := c.def_ 5 (d := d_is_integer_cluster) rfl
  have g_is_integer_cluster := He.glo_ok X G (c.fact 5 (f := .glo "is_integer_cluster") rfl)
  have b_is_integer_cluster : Binds K fd_is_integer_cluster ["thing", "low", "high"] [] := F_is_integer_cluster.bindsN fun _ _ _ _ _ _ us hl => match us, hl with | [_, _, _], _ => rfl
  obtain ⟨fd_is_integer_numbers, F_is_integer_numbers⟩ := c.def_ 6 (d := d_is_integer_numbers) rfl
  have g_is_integer_numbers := He.glo_ok X G (c.fact 6 (f := .glo "is_integer_numbers") rfl)
  have b_is_integer_numbers : Binds K fd_is_integer_numbers ["thing"] [] := F_is_integer_numbers.bindsN fun _ _ _ _ _ _ us hl => match us, hl with | [_], _ => rfl
  obtain ⟨fd_binomial, F_binomial⟩ := c.def_ 7 (d := d_binomial) rfl
  have g_binomial := He.glo_ok X G (c.fact 7 (f := .glo "binomial") rfl)
  have b_binomial : Binds K fd_binomial ["n", "k"] [] := F_binomial.bindsN fun _ _ _ _ _ _ us hl => match us, hl with | [_, _], _ => rfl
  obtain ⟨fd_edge_divisor, F_edge_divisor⟩ := c.def_ 8 (d := d_edge_divisor) rfl
  have g_edge_divisor := He.glo_ok X G (c.fact 8 (f := .glo "edge_divisor") rfl)
  have b_edge_divisor : Binds K fd_edge_divisor ["n", "size"] [] := F_edge_divisor.bindsN fun _ _ _ _ _ _ us hl => match us, hl with | [_, _], _ => rfl
  obtain ⟨fd_common_divisor, F_common_divisor⟩ := c.def_ 9 (d := d_common_divisor) rfl
  have g_common_divisor := He.glo_ok X G (c.fact 9 (f := .glo "common_divisor") rfl)
  have b_common_divisor : Binds K fd_common_divisor ["one", "other"] [] := F_common_divisor.bindsN fun _ _ _ _ _ _ us hl => match us, hl with | [_, _], _ => rfl
  obtain ⟨fd_common_multiple, F_common_multiple⟩ := c.def_ 10 (d := d_common_multiple) rfl
  have g_common_multiple := He.glo_ok X G (c.fact 10 (f := .glo "common_multiple") rfl)
  have b_common_multiple : Binds K fd_common_multiple ["some"] [] := F_common_multiple.bindsN fun _ _ _ _ _ _ us hl => match us, hl with | [_], _ => rfl
  obtain ⟨fd_least_lists, F_least_lists⟩ := c.def_ 11 (d := d_least_lists) rfl
  have g_least_lists := He.glo_ok X G (c.fact 11 (f := .glo "least_lists") rfl)
  have b_least_lists : Binds K fd_least_lists ["n", "depth"] [] := F_least_lists.bindsN fun _ _ _ _ _ _ us hl => match us, hl with | [_, _], _ => rfl
  obtain ⟨fd_is_possible, F_is_possible⟩ := c.def_ 12 (d := d_is_possible) rfl
  have g_is_possible := He.glo_ok X G (c.fact 12 (f := .glo "is_possible") rfl)
  have b_is_possible : Binds K fd_is_possible ["n", "depth", "count"] [] := F_is_possible.bindsN fun _ _ _ _ _ _ us hl => match us, hl with | [_, _, _], _ => rfl
  obtain ⟨fd_Cluster_init, F_Cluster_init⟩ := c.def_ 13 (d := d_Cluster_init) rfl
  have b_Cluster_init : Binds K fd_Cluster_init ["self", "n", "failures", "factor", "count"] [] := F_Cluster_init.bindsN fun _ _ _ _ _ _ us hl => match us, hl with | [_, _, _, _, _], _ => rfl
  obtain ⟨fd_law_shuffled, F_law_shuffled⟩ := c.def_ 14 (d := d_law_shuffled) rfl
  have g_law_shuffled := He.glo_ok X G (c.fact 13 (f := .glo "_law_shuffled") rfl)
  have b_law_shuffled : Binds K fd_law_shuffled ["_law_stream_here", "_law_items"] [] := F_law_shuffled.bindsN fun _ _ _ _ _ _ us hl => match us, hl with | [_, _], _ => rfl
  obtain ⟨fd_look_at_count, F_look_at_count⟩ := c.def_ 15 (d := d_look_at_count) rfl
  have g_look_at_count := He.glo_ok X G (c.fact 14 (f := .glo "look_at_count") rfl)
  have b_look_at_count : Binds K fd_look_at_count ["n", "depth", "count"] [] := F_look_at_count.bindsN fun _ _ _ _ _ _ us hl => match us, hl with | [_, _, _], _ => rfl
  obtain ⟨fd_outside, F_outside⟩ := c.def_ 16 (d := d_outside) rfl
  have g_outside := He.glo_ok X G (c.fact 15 (f := .glo "outside") rfl)
  have b_outside : Binds K fd_outside ["n", "members"] [] := F_outside.bindsN fun _ _ _ _ _ _ us hl => match us, hl with | [_, _], _ => rfl
  obtain ⟨fd_with_server, F_with_server⟩ := c.def_ 17 (d := d_with_server) rfl
  have g_with_server := He.glo_ok X G (c.fact 16 (f := .glo "with_server") rfl)
  have b_with_server : Binds K fd_with_server ["members", "server"] [] := F_with_server.bindsN fun _ _ _ _ _ _ us hl => match us, hl with | [_, _], _ => rfl
  obtain ⟨fd_numbers_with, F_numbers_with⟩ := c.def_ 18 (d := d_numbers_with) rfl
  have g_numbers_with := He.glo_ok X G (c.fact 17 (f := .glo "numbers_with") rfl)
  have b_numbers_with : Binds K fd_numbers_with ["n", "count", "beginning"] [] := F_numbers_with.bindsN fun _ _ _ _ _ _ us hl => match us, hl with | [_, _, _], _ => rfl
  obtain ⟨fd_law_shards, F_law_shards⟩ := c.def_ 19 (d := d_law_shards) rfl
  have g_law_shards := He.glo_ok X G (c.fact 18 (f := .glo "_law_shards") rfl)
  have b_law_shards : Binds K fd_law_shards ["_law_stream_here", "_law_sizes", "_law_server"] [] := F_law_shards.bindsN fun _ _ _ _ _ _ us hl => match us, hl with | [_, _, _], _ => rfl
  obtain ⟨fd_Cluster_live, F_Cluster_live⟩ := c.def_ 20 (d := d_Cluster_live) rfl
  have b_Cluster_live : Binds K fd_Cluster_live ["self"] [] := F_Cluster_live.bindsN fun _ _ _ _ _ _ us hl => match us, hl with | [_], _ => rfl
  obtain ⟨fd_next_place, F_next_place⟩ := c.def_ 21 (d := d_next_place) rfl
  have g_next_place := He.glo_ok X G (c.fact 19 (f := .glo "next_place") rfl)
  have b_next_place : Binds K fd_next_place ["n", "count", "members", "rest"] [] := F_next_place.bindsN fun _ _ _ _ _ _ us hl => match us, hl with | [_, _, _, _], _ => rfl
  obtain ⟨fd_walk, F_walk⟩ := c.def_ 22 (d := d_walk) rfl
  have g_walk := He.glo_ok X G (c.fact 20 (f := .glo "walk") rfl)
  have b_walk : Binds K fd_walk ["n", "depth", "count", "number"] [] := F_walk.bindsN fun _ _ _ _ _ _ us hl => match us, hl with | [_, _, _, _], _ => rfl
  obtain ⟨fd_list_at, F_list_at⟩ := c.def_ 23 (d := d_list_at) rfl
  have g_list_at := He.glo_ok X G (c.fact 21 (f := .glo "list_at") rfl)
  have b_list_at : Binds K fd_list_at ["n", "depth", "count", "number"] [] := F_list_at.bindsN fun _ _ _ _ _ _ us hl => match us, hl with | [_, _, _, _], _ => rfl
  obtain ⟨fd_Cluster_order_of, F_Cluster_order_of⟩ := c.def_ 24 (d := d_Cluster_order_of) rfl
  have b_Cluster_order_of : Binds K fd_Cluster_order_of ["self", "shard"] [] := F_Cluster_order_of.bindsN fun _ _ _ _ _ _ us hl => match us, hl with | [_, _], _ => rfl
  obtain ⟨fd_holders, F_holders⟩ := c.def_ 25 (d := d_holders) rfl
  have g_holders := He.glo_ok X G (c.fact 22 (f := .glo "holders") rfl)
  have b_holders : Binds K fd_holders ["order", "live", "factor"] [] := F_holders.bindsN fun _ _ _ _ _ _ us hl => match us, hl with | [_, _, _], _ => rfl
  obtain ⟨fd_Cluster_owners, F_Cluster_owners⟩ := c.def_ 26 (d := d_Cluster_owners) rfl
  have b_Cluster_owners : Binds K fd_Cluster_owners ["self", "shard"] [] := F_Cluster_owners.bindsN fun _ _ _ _ _ _ us hl => match us, hl with | [_, _], _ => rfl
  obtain ⟨fd_Cluster_len, F_Cluster_len⟩ := c.def_ 27 (d := d_Cluster_len) rfl
  have b_Cluster_len : Binds K fd_Cluster_len ["self"] [] := F_Cluster_len.bindsN fun _ _ _ _ _ _ us hl => match us, hl with | [_], _ => rfl
  obtain ⟨fd_Cluster_is_live, F_Cluster_is_live⟩ := c.def_ 28 (d := d_Cluster_is_live) rfl
  have b_Cluster_is_live : Binds K fd_Cluster_is_live ["self", "server"] [] := F_Cluster_is_live.bindsN fun _ _ _ _ _ _ us hl => match us, hl with | [_, _], _ => rfl
  obtain ⟨fd_Cluster_check_failure, F_Cluster_check_failure⟩ := c.def_ 29 (d := d_Cluster_check_failure) rfl
  have b_Cluster_check_failure : Binds K fd_Cluster_check_failure ["self", "server"] [] := F_Cluster_check_failure.bindsN fun _ _ _ _ _ _ us hl => match us, hl with | [_, _], _ => rfl
  obtain ⟨fd_live_in, F_live_in⟩ := c.def_ 30 (d := d_live_in) rfl
  have g_live_in := He.glo_ok X G (c.fact 23 (f := .glo "live_in") rfl)
  have b_live_in : Binds K fd_live_in ["order", "live"] [] := F_live_in.bindsN fun _ _ _ _ _ _ us hl => match us, hl with | [_, _], _ => rfl
  obtain ⟨fd_successor_failures, F_successor_failures⟩ := c.def_ 31 (d := d_successor_failures) rfl
  have g_successor_failures := He.glo_ok X G (c.fact 24 (f := .glo "successor_failures") rfl)
  have b_successor_failures : Binds K fd_successor_failures ["order", "live", "factor", "failed"] [] := F_successor_failures.bindsN fun _ _ _ _ _ _ us hl => match us, hl with | [_, _, _, _], _ => rfl
  obtain ⟨fd_Cluster_successor, F_Cluster_successor⟩ := c.def_ 32 (d := d_Cluster_successor) rfl
  have b_Cluster_successor : Binds K fd_Cluster_successor ["self", "shard", "server"] [] := F_Cluster_successor.bindsN fun _ _ _ _ _ _ us hl => match us, hl with | [_, _, _], _ => rfl
  obtain ⟨fd_Cluster_load, F_Cluster_load⟩ := c.def_ 33 (d := d_Cluster_load) rfl
  have b_Cluster_load : Binds K fd_Cluster_load ["self", "server"] [] := F_Cluster_load.bindsN fun _ _ _ _ _ _ us hl => match us, hl with | [_, _], _ => rfl
  obtain ⟨fd_Cluster_fail, F_Cluster_fail⟩ := c.def_ 34 (d := d_Cluster_fail) rfl
  have b_Cluster_fail : Binds K fd_Cluster_fail ["self", "server"] [] := F_Cluster_fail.bindsN fun _ _ _ _ _ _ us hl => match us, hl with | [_, _], _ => rfl
  obtain ⟨fd_law_fails, F_law_fails⟩ := c.def_ 35 (d := d_law_fails) rfl
  have g_law_fails := He.glo_ok X G (c.fact 25 (f := .glo "_law_fails") rfl)
  have b_law_fails : Binds K fd_law_fails ["_law_cluster", "_law_sizes", "_law_server", "_law_shards_here"] [] := F_law_fails.bindsN fun _ _ _ _ _ _ us hl => match us, hl with | [_, _, _, _], _ => rfl
  obtain ⟨fd_Cluster_recover, F_Cluster_recover⟩ := c.def_ 36 (d := d_Cluster_recover) rfl
  have b_Cluster_recover : Binds K fd_Cluster_recover ["self", "server"] [] := F_Cluster_recover.bindsN fun _ _ _ _ _ _ us hl => match us, hl with | [_, _], _ => rfl
  obtain ⟨fd_law, F_law⟩ := c.def_ 37 (d := d_law) rfl
  have e := hfa.symm.trans (He.glo_ok X G (c.fact 26 (f := .glo "law") rfl))
  cases e
  have b := FunD.bindsA (ps := ["_law_script"]) F_law fun _ _ _ _ _ _ us hl => match us, hl with | [_], _ => rfl
  refine ⟨fd_law, fun s v => b s [v] rfl, fun base _ _ => ?_⟩
  have c_law_stream : C8.Cal (PySem.Challenge.rw_evenfailover_k90_whole_great_failures_by).prog w K mg base 1 "_law_stream" (spN K (fun _ => True) 2 pre_law_stream) [] := cal_mkN F_law_stream g_law_stream b_law_stream sc_law_stream (by decide) (fun cdv A outer s H E hr => der_law_stream fr hL hr) pure_law_stream
  have c_law_draw : C8.Cal (PySem.Challenge.rw_evenfailover_k90_whole_great_failures_by).prog w K mg base 1 "_law_draw" (spD K (fun _ => True) 2 pre_law_draw) [] := cal_mk F_law_draw g_law_draw b_law_draw sc_law_draw (by decide) (fun cdv A outer s H E hr => der_law_draw fr hr) pure_law_draw
  have c_law_comb : C8.Cal (PySem.Challenge.rw_evenfailover_k90_whole_great_failures_by).prog w K mg base 1 "_law_comb" (spD K (fun _ => True) 2 pre_law_comb) [] := cal_mk F_law_comb g_law_comb b_law_comb sc_law_comb (by decide) (fun cdv A outer s H E hr => der_law_comb fr hr) pure_law_comb
  have c_law_gcd : C8.Cal (PySem.Challenge.rw_evenfailover_k90_whole_great_failures_by).prog w K mg base 1 "_law_gcd" (spD K (fun _ => True) 2 pre_law_gcd) [] := cal_mk F_law_gcd g_law_gcd b_law_gcd sc_law_gcd (by decide) (fun cdv A outer s H E hr => der_law_gcd fr hr) pure_law_gcd
  have c_law_least : C8.Cal (PySem.Challenge.rw_evenfailover_k90_whole_great_failures_by).prog w K mg base 2 "_law_least" (spD K (fun _ => True) 2 pre_law_least) [] := cal_mk F_law_least g_law_least b_law_least sc_law_least (by decide) (fun cdv A outer s H E hr => der_law_least fr c_law_comb c_law_gcd hr) pure_law_least
  have c_is_integer_cluster : C8.Cal (PySem.Challenge.rw_evenfailover_k90_whole_great_failures_by).prog w K mg base 1 "is_integer_cluster" (spD K (fun _ => True) 3 pre_is_integer_cluster) [] := cal_mk F_is_integer_cluster g_is_integer_cluster b_is_integer_cluster sc_is_integer_cluster (by decide) (fun cdv A outer s H E hr => der_is_integer_cluster fr hr) pure_is_integer_cluster
  have c_is_integer_numbers : C8.Cal (PySem.Challenge.rw_evenfailover_k90_whole_great_failures_by).prog w K mg base 1 "is_integer_numbers" (spD K (fun _ => True) 1 pre_is_integer_numbers) [] := cal_mk F_is_integer_numbers g_is_integer_numbers b_is_integer_numbers sc_is_integer_numbers (by decide) (fun cdv A outer s H E hr => der_is_integer_numbers fr hr) pure_is_integer_numbers
  have c_binomial : C8.Cal (PySem.Challenge.rw_evenfailover_k90_whole_great_failures_by).prog w K mg base 1 "binomial" (spD K (fun _ => True) 2 pre_binomial) [] := cal_mk F_binomial g_binomial b_binomial sc_binomial (by decide) (fun cdv A outer s H E hr => der_binomial fr hr) pure_binomial
  have c_edge_divisor : C8.Cal (PySem.Challenge.rw_evenfailover_k90_whole_great_failures_by).prog w K mg base 2 "edge_divisor" (spD K (fun _ => True) 2 pre_edge_divisor) [] := cal_mk F_edge_divisor g_edge_divisor b_edge_divisor sc_edge_divisor (by decide) (fun cdv A outer s H E hr => der_edge_divisor fr c_binomial hr) pure_edge_divisor
  have c_common_divisor : C8.Cal (PySem.Challenge.rw_evenfailover_k90_whole_great_failures_by).prog w K mg base 1 "common_divisor" (spD K (fun _ => True) 2 pre_common_divisor) [] := cal_mk F_common_divisor g_common_divisor b_common_divisor sc_common_divisor (by decide) (fun cdv A outer s H E hr => der_common_divisor fr hr) pure_common_divisor
  have c_common_multiple : C8.Cal (PySem.Challenge.rw_evenfailover_k90_whole_great_failures_by).prog w K mg base 2 "common_multiple" (spD K (fun _ => True) 1 pre_common_multiple) [] := cal_mk F_common_multiple g_common_multiple b_common_multiple sc_common_multiple (by decide) (fun cdv A outer s H E hr => der_common_multiple fr c_common_divisor hr) pure_common_multiple
  have c_least_lists : C8.Cal (PySem.Challenge.rw_evenfailover_k90_whole_great_failures_by).prog w K mg base 3 "least_lists" (spD K (fun _ => True) 2 pre_least_lists) [] := cal_mk F_least_lists g_least_lists b_least_lists sc_least_lists (by decide) (fun cdv A outer s H E hr => der_least_lists fr c_edge_divisor c_common_multiple hr) pure_least_lists
  have c_is_possible : C8.Cal (PySem.Challenge.rw_evenfailover_k90_whole_great_failures_by).prog w K mg base 4 "is_possible" (spD K (fun _ => True) 3 pre_is_possible) [] := cal_mk F_is_possible g_is_possible b_is_possible sc_is_possible (by decide) (fun cdv A outer s H E hr => der_is_possible fr c_is_integer_numbers c_least_lists hr) pure_is_possible
  have c_Cluster_init : C8.Mak (PySem.Challenge.rw_evenfailover_k90_whole_great_failures_by).prog w K mg base 5 "Cluster" (cC_Cluster K) (spX K (fun _ => True) 5 (pre_Cluster_init K)) [] := mak_mk F_Cluster_init (He.mkr_ok (c.fact 47 (f := .mkr "Cluster") rfl)) (He.glo_ok X G (c.fact 48 (f := .glo "Cluster") rfl)) b_Cluster_init sc_Cluster_init (by decide) (fun cdv A outer s H E hr => der_Cluster_init fr cf_Cluster hc_MOST_SERVERS hc_LEAST_SERVERS c_is_integer_cluster c_is_possible hr) pure_Cluster_init
  have c_law_shuffled : C8.Cal (PySem.Challenge.rw_evenfailover_k90_whole_great_failures_by).prog w K mg base 2 "_law_shuffled" (spN K (fun _ => True) 2 pre_law_shuffled) [] := cal_mkN F_law_shuffled g_law_shuffled b_law_shuffled sc_law_shuffled (by decide) (fun cdv A outer s H E hr => der_law_shuffled fr c_law_draw hr) pure_law_shuffled
  have c_look_at_count : C8.Cal (PySem.Challenge.rw_evenfailover_k90_whole_great_failures_by).prog w K mg base 5 "look_at_count" (spD K (fun _ => True) 3 pre_look_at_count) [] := cal_mk F_look_at_count g_look_at_count b_look_at_count sc_look_at_count (by decide) (fun cdv A outer s H E hr => der_look_at_count fr c_is_possible hr) pure_look_at_count
  have c_outside : C8.Cal (PySem.Challenge.rw_evenfailover_k90_whole_great_failures_by).prog w K mg base 1 "outside" (spD K (fun _ => True) 2 pre_outside) [] := cal_mk F_outside g_outside b_outside sc_outside (by decide) (fun cdv A outer s H E hr => der_outside fr hr) pure_outside
  have c_with_server : C8.Cal (PySem.Challenge.rw_evenfailover_k90_whole_great_failures_by).prog w K mg base 1 "with_server" (spD K (fun _ => True) 2 pre_with_server) [] := cal_mk F_with_server g_with_server b_with_server sc_with_server (by decide) (fun cdv A outer s H E hr => der_with_server fr hr) pure_with_server
  have c_numbers_with : C8.Cal (PySem.Challenge.rw_evenfailover_k90_whole_great_failures_by).prog w K mg base 6 "numbers_with" (spD K (fun _ => True) 3 pre_numbers_with) [] := cal_mk F_numbers_with g_numbers_with b_numbers_with sc_numbers_with (by decide) (fun cdv A outer s H E hr => der_numbers_with fr c_look_at_count c_edge_divisor c_outside c_with_server hr) pure_numbers_with
  have c_law_shards : C8.Cal (PySem.Challenge.rw_evenfailover_k90_whole_great_failures_by).prog w K mg base 7 "_law_shards" (spD K (fun _ => True) 3 pre_law_shards) [] := cal_mk F_law_shards g_law_shards b_law_shards sc_law_shards (by decide) (fun cdv A outer s H E hr => der_law_shards fr c_numbers_with c_law_draw hr) pure_law_shards
  have c_Cluster_live : C8.Met (PySem.Challenge.rw_evenfailover_k90_whole_great_failures_by).prog w K mg base 1 (cC_Cluster K) "live" (spD K (fun _ => True) 1 (pre_Cluster_live K)) [] := met_mk F_Cluster_live cf_Cluster.1 (He.meth_ok (c.fact 49 (f := .meth "Cluster" "live") rfl)) b_Cluster_live sc_Cluster_live (by decide) (fun cdv A outer s H E hr => der_Cluster_live fr cf_Cluster hr) pure_Cluster_live
  have c_next_place : C8.Cal (PySem.Challenge.rw_evenfailover_k90_whole_great_failures_by).prog w K mg base 3 "next_place" (spD K (fun _ => True) 4 pre_next_place) [] := cal_mk F_next_place g_next_place b_next_place sc_next_place (by decide) (fun cdv A outer s H E hr => der_next_place fr c_edge_divisor c_outside c_with_server hr) pure_next_place
  have c_walk : C8.Cal (PySem.Challenge.rw_evenfailover_k90_whole_great_failures_by).prog w K mg base 6 "walk" (spD K (fun _ => True) 4 pre_walk) [] := cal_mk F_walk g_walk b_walk sc_walk (by decide) (fun cdv A outer s H E hr => der_walk fr c_look_at_count c_is_integer_numbers c_next_place hr) pure_walk
  have c_list_at : C8.Cal (PySem.Challenge.rw_evenfailover_k90_whole_great_failures_by).prog w K mg base 7 "list_at" (spD K (fun _ => True) 4 pre_list_at) [] := cal_mk F_list_at g_list_at b_list_at sc_list_at (by decide) (fun cdv A outer s H E hr => der_list_at fr c_walk hr) pure_list_at
  have c_Cluster_order_of : C8.Met (PySem.Challenge.rw_evenfailover_k90_whole_great_failures_by).prog w K mg base 8 (cC_Cluster K) "order_of" (spD K (fun _ => True) 2 (pre_Cluster_order_of K)) [] := met_mk F_Cluster_order_of cf_Cluster.1 (He.meth_ok (c.fact 50 (f := .meth "Cluster" "order_of") rfl)) b_Cluster_order_of sc_Cluster_order_of (by decide) (fun cdv A outer s H E hr => der_Cluster_order_of fr cf_Cluster c_is_integer_cluster c_list_at hr) pure_Cluster_order_of
  have c_holders : C8.Cal (PySem.Challenge.rw_evenfailover_k90_whole_great_failures_by).prog w K mg base 1 "holders" (spD K (fun _ => True) 3 pre_holders) [] := cal_mk F_holders g_holders b_holders sc_holders (by decide) (fun cdv A outer s H E hr => der_holders fr hr) pure_holders
  have c_Cluster_owners : C8.Met (PySem.Challenge.rw_evenfailover_k90_whole_great_failures_by).prog w K mg base 9 (cC_Cluster K) "owners" (spD K (fun _ => True) 2 (pre_Cluster_owners K)) [] := met_mk F_Cluster_owners cf_Cluster.1 (He.meth_ok (c.fact 51 (f := .meth "Cluster" "owners") rfl)) b_Cluster_owners sc_Cluster_owners (by decide) (fun cdv A outer s H E hr => der_Cluster_owners fr cf_Cluster c_Cluster_live c_Cluster_order_of c_holders hr) pure_Cluster_owners
  have c_Cluster_len : C8.Met (PySem.Challenge.rw_evenfailover_k90_whole_great_failures_by).prog w K mg base 2 (cC_Cluster K) "__len__" (spD K (fun _ => True) 1 (pre_Cluster_len K)) [] := met_mk F_Cluster_len cf_Cluster.1 (He.meth_ok (c.fact 52 (f := .meth "Cluster" "__len__") rfl)) b_Cluster_len sc_Cluster_len (by decide) (fun cdv A outer s H E hr => der_Cluster_len fr cf_Cluster c_Cluster_live hr) pure_Cluster_len
  have c_Cluster_is_live : C8.Met (PySem.Challenge.rw_evenfailover_k90_whole_great_failures_by).prog w K mg base 2 (cC_Cluster K) "is_live" (spD K (fun _ => True) 2 (pre_Cluster_is_live K)) [] := met_mk F_Cluster_is_live cf_Cluster.1 (He.meth_ok (c.fact 53 (f := .meth "Cluster" "is_live") rfl)) b_Cluster_is_live sc_Cluster_is_live (by decide) (fun cdv A outer s H E hr => der_Cluster_is_live fr cf_Cluster c_is_integer_cluster hr) pure_Cluster_is_live
  have c_Cluster_check_failure : C8.Met (PySem.Challenge.rw_evenfailover_k90_whole_great_failures_by).prog w K mg base 3 (cC_Cluster K) "check_failure" (spD K (fun _ => True) 2 (pre_Cluster_check_failure K)) [] := met_mk F_Cluster_check_failure cf_Cluster.1 (He.meth_ok (c.fact 54 (f := .meth "Cluster" "check_failure") rfl)) b_Cluster_check_failure sc_Cluster_check_failure (by decide) (fun cdv A outer s H E hr => der_Cluster_check_failure fr cf_Cluster c_Cluster_is_live hr) pure_Cluster_check_failure
  have c_live_in : C8.Cal (PySem.Challenge.rw_evenfailover_k90_whole_great_failures_by).prog w K mg base 1 "live_in" (spD K (fun _ => True) 2 pre_live_in) [] := cal_mk F_live_in g_live_in b_live_in sc_live_in (by decide) (fun cdv A outer s H E hr => der_live_in fr hr) pure_live_in
  have c_successor_failures : C8.Cal (PySem.Challenge.rw_evenfailover_k90_whole_great_failures_by).prog w K mg base 2 "successor_failures" (spD K (fun _ => True) 4 pre_successor_failures) [] := cal_mk F_successor_failures g_successor_failures b_successor_failures sc_successor_failures (by decide) (fun cdv A outer s H E hr => der_successor_failures fr c_live_in hr) pure_successor_failures
  have c_Cluster_successor : C8.Met (PySem.Challenge.rw_evenfailover_k90_whole_great_failures_by).prog w K mg base 9 (cC_Cluster K) "successor" (spD K (fun _ => True) 3 (pre_Cluster_successor K)) [] := met_mk F_Cluster_successor cf_Cluster.1 (He.meth_ok (c.fact 55 (f := .meth "Cluster" "successor") rfl)) b_Cluster_successor sc_Cluster_successor (by decide) (fun cdv A outer s H E hr => der_Cluster_successor fr cf_Cluster c_Cluster_order_of c_Cluster_check_failure c_Cluster_live c_successor_failures hr) pure_Cluster_successor
  have c_Cluster_load : C8.Met (PySem.Challenge.rw_evenfailover_k90_whole_great_failures_by).prog w K mg base 3 (cC_Cluster K) "load" (spD K (fun _ => True) 2 (pre_Cluster_load K)) [] := met_mk F_Cluster_load cf_Cluster.1 (He.meth_ok (c.fact 56 (f := .meth "Cluster" "load") rfl)) b_Cluster_load sc_Cluster_load (by decide) (fun cdv A outer s H E hr => der_Cluster_load fr cf_Cluster c_Cluster_is_live c_Cluster_live hr) pure_Cluster_load
  have c_Cluster_fail : C8.Met (PySem.Challenge.rw_evenfailover_k90_whole_great_failures_by).prog w K mg base 4 (cC_Cluster K) "fail" (spD K (fun _ => True) 2 (pre_Cluster_fail K)) [] := met_mk F_Cluster_fail cf_Cluster.1 (He.meth_ok (c.fact 57 (f := .meth "Cluster" "fail") rfl)) b_Cluster_fail sc_Cluster_fail (by decide) (fun cdv A outer s H E hr => der_Cluster_fail fr cf_Cluster c_Cluster_check_failure c_Cluster_live c_Cluster_load hr) pure_Cluster_fail
  have c_law_fails : C8.Cal (PySem.Challenge.rw_evenfailover_k90_whole_great_failures_by).prog w K mg base 10 "_law_fails" (spD K (fun _ => True) 4 (pre_law_fails K)) [] := cal_mk F_law_fails g_law_fails b_law_fails sc_law_fails (by decide) (fun cdv A outer s H E hr => der_law_fails fr cf_Cluster c_Cluster_owners c_Cluster_len c_Cluster_successor c_Cluster_fail hr) pure_law_fails
  have c_Cluster_recover : C8.Met (PySem.Challenge.rw_evenfailover_k90_whole_great_failures_by).prog w K mg base 4 (cC_Cluster K) "recover" (spD K (fun _ => True) 2 (pre_Cluster_recover K)) [] := met_mk F_Cluster_recover cf_Cluster.1 (He.meth_ok (c.fact 58 (f := .meth "Cluster" "recover") rfl)) b_Cluster_recover sc_Cluster_recover (by decide) (fun cdv A outer s H E hr => der_Cluster_recover fr cf_Cluster c_is_integer_cluster c_Cluster_load hr) pure_Cluster_recover
  exact F_law.ok sc_law (fun vs H Q E h => spD_len h) (fun cdv A outer s H vs Q E hr h => ⟨_, PSs.nox (der_law fr cf_Cluster c_law_stream c_law_draw c_law_least c_Cluster_init c_law_shuffled c_law_shards c_Cluster_owners c_law_fails c_Cluster_recover c_Cluster_load c_Cluster_live hr), spD_body pure_law vs H Q E h⟩)
theorem fz_of {K : PySem.W.Frag} {H : Hp} {a : Addr} {xs : List V} (hO : Only H) (h : SqL K H a xs) : FzL K H a xs := by
  rcases h with (h | ⟨o, h⟩) | h
  · rcases hO a with e | ⟨o, ys, e⟩
    · rw [e] at h; cases h
    · rw [e] at h; cases h
  · exact .inl ⟨o, h⟩
  · exact .inr h
theorem law_ends {K : PySem.W.Frag} {H : Hp} {a : Addr} {ns : List Int} (hO : Only H) (hS : SqL K H a (ns.map V.int)) : spD K (fun _ => True) 1 pre_law [.ref a] H (fun v _ => v = .bl true) fun _ _ _ => False := by
  refine ⟨fun _ => False, fun _ => False, [scr ns], [], fun d _ => d = .bool true, rfl, ⟨fun _ _ h => h.elim, fun _ h => h.elim, fun a h => ?_, fun _ h => h.elim, fun _ h => h, fun _ h => h.elim, fun _ _ h _ => h, fun _ h => .inl h, fun _ h => (nomatch h), .nil, .nil⟩, .cons (.scr (fz_of hO hS)) .nil, ⟨ns, rfl, rfl, rfl⟩, fun U' v d mc' H2 _ _ r e => ?_⟩
  · rcases h with h | h
    · exact h.elim
    · exact nomatch h
  · subst e
    cases r
    rfl
end Tx
open PySem PySem.W PySem.Calls PyProof.Rows
theorem PySem.Challenge.cw_evenfailover_k90_whole_great_failures_by_holds : PySem.Challenge.rw_evenfailover_k90_whole_great_failures_by.Holds := by
  w_on; o_law
  refine HandSHeadRun.head_any (r := OpenLaw.row PySem.Challenge.rw_evenfailover_k90_whole_great_failures_by) (q := view (OpenLaw.row PySem.Challenge.rw_evenfailover_k90_whole_great_failures_by).prog [49]) (H := Tx.hkD) (ob := Tx.obD) (M := 9000) (loose := Tx.looseD) (d := HandSHeadRun.topDef (OpenLaw.row PySem.Challenge.rw_evenfailover_k90_whole_great_failures_by).prog 49) (kwd := []) Tx.obD_eq
    (by kernel_rfl) (fun s => by kernel_rfl) Tx.runD (by kernel_rfl) (by kernel_rfl) (by kernel_rfl) (by rfl) (by first | assumption | decide +kernel) (by decide +kernel) ⟨rfl, rfl, rfl, rfl, rfl, by decide +kernel⟩ ?hw ?hc
  case hw => w_witness2
  case hc =>
    refine L2.walk_ofE (l := PySem.Challenge.rw_evenfailover_k90_whole_great_failures_by) (n := 63) (k := 11) (x := "_law_script") (CX := L2.CX0) rfl (by decide) (by kernel_rfl) ⟨rfl, by decide, by decide⟩ ?F (fun _ _ _ _ z => z)
    intro w mg fa h Y G hmg0
    obtain ⟨K, KX, c, hL⟩ := Y
    have hmg : mg ("law" : PySem.Str) = some (.ref fa) := by
      have e : (HandSHeadRun.topDef (OpenLaw.row PySem.Challenge.rw_evenfailover_k90_whole_great_failures_by).prog 49).name = ("law" : PySem.Str) := by kernel_rfl
      rw [← e]
      exact hmg0
    obtain ⟨fd, hb, hF⟩ := Tx.factsD (w := w) KX G hmg c hL
    exact ⟨K, fd, _, KX, hb, fun H a ns hl hO hS => Tx.law_ends hO hS, hF⟩

