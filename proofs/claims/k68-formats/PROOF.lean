import PyProof.Rows.All
import Wide.All
import OpenK.AllK
import Wide.FinOn
import HandS.ForMost
import HandS.ForExc
import HandS.Zip
import HandS.IsInst
import HandS.ExcIs
import HandS.Wide
import HandS.Deep
import HandS.TupAny
import HandS.Style
import HandS.Flow
import HandS.Conv
import HandS.CallSlots
import HandS.SetFor
import HandS.SortInts
import HandS.Strs
import HandS.Defaults
import HandS.Codes
import HandS.Head0
import HandS.Head1
import HandS.Head2
import HandS.HeadEnd
import HandS.HeadHook1
import HandS.HeadHook2
import HandS.HeadHook3
import HandS.HeadHook4
import KE.SortData
import KE.DataMinMax
import HandS.TupLen
import HandS.TupSets
import PyProof.ZipIter
import KE.KDictPairs
import KE.KeyNested
import KE.DataEq
import KE.KIntText
import PySem.Challenge.RW_cogrings_k68_formats


set_option Elab.async false
set_option linter.all false
set_option maxRecDepth 100000
namespace MP
open PySem PySem.Spec PyProof.Rows L2
/-! ### set(list of ints) -/
section
variable {P : Program} {w : World} {A : Around} {E : Value → Shared → Prop} {s : Shared}
/-- a set that was just laid -/
abbrev nset (w : World) : Obj := { cls := .type "set", dict := none, data := .set #[] 0 (.fresh 0 0 (!w.params.followText "set-order")) }
set_option maxHeartbeats 3200000 in
theorem set_of_ints {b : Addr} {its : Array Value} (ns : List Int) {Q : Value → Shared → Prop} (hh : A.handled = none) (hb : s.heap.IsList b its) (hi : IntsAre its.toList ns) (hz : ns.length + 1 < scanBound)
    (h : ∀ (h' : Heap) (tk c : Nat), SetR w h' s.heap.objs.size (fun j => decide (j ∈ ns)) c → c ≤ ns.length → (∀ b o, s.heap.get? b = some o → h'.get? b = some o) → Q (.ref s.heap.objs.size) { s with heap := h', toks := tk }) :
    wpAny (model P w) A (call (.type "set") [.ref b]) Q E s := by
  have hn : its.size = ns.length := by have q := IntsAre.length hi; rw [Array.length_toList] at q; exact q
  obtain ⟨c, tl, hmro⟩ := F.called_set.mro
  have hmade := F.called_set.made
  have hsub := F.called_set.sub
  refine wpAny_call (codeAny_of_tree ?_)
  show wpAny _ _ (callAny (.type "set") _) _ _ _
  refine wpAny_pure ⟨Code.quiet_builtin _ (by decide +kernel), codeAny_builtin F.entry_type_call ?_⟩
  rw [Around.under_plain (weight_type_call_type "set" [.ref b] []) rfl]
  have h1 := F.called_set.notType
  have h2 := F.called_set.canCreate
  have hct := F.typeCall_set_1 (.ref b)
  repeat (any_goals (first | assumption | wp_step))
  refine codeAny_mono (code_set_led1 (.ref b) (E := E) (Q₁ := fun obj t => obj = .ref s.heap.objs.size ∧ t = { s with heap := s.heap.push (nset w) }) ⟨rfl, rfl⟩) fun r t hr => ?_
  cases r with
  | error e => exact hr
  | ok fl =>
    cases fl with
    | next => exact hr.elim
    | brk => exact hr.elim
    | cont => exact hr.elim
    | ret obj =>
      obtain ⟨rfl, rfl⟩ := hr
      have hS : (s.heap.push (nset w)).get? s.heap.objs.size = some (nset w) := Heap.get?_push_size _ rfl
      have hT : Shared.TypeIs { s with heap := s.heap.push (nset w) } (.ref s.heap.objs.size) "set" := ⟨_, hS, rfl⟩
      have hli := F.called_set.init.lookup
      have hbi := F.called_set.init.bind (.ref s.heap.objs.size)
      repeat (any_goals (first | assumption | wp_step))
      refine codeAny_mono (codeAny_call_builtin (R := wants (fun r t => r = .none ∧ ∃ h' tk c, t = { s with heap := h', toks := tk } ∧ SetR w h' s.heap.objs.size (fun j => decide (j ∈ ns)) c ∧ c ≤ ns.length ∧
        ∀ b o, s.heap.get? b = some o → h'.get? b = some o) E) F.called_set.init.plain F.entry_set_init (check_set_init_1 hT ?_)) fun r t hr => ?_
      · obtain ⟨⟨oc, od, dt, sl⟩, hob, hcl, nl, hdl⟩ := hb
        simp only at hcl hdl
        subst hcl; subst hdl
        have hob2 : (s.heap.push (nset w)).get? b = some { cls := .type "list", dict := od, data := .seq its nl, slots := sl } := Heap.get?_push_of_some _ hob
        have hl1 : (s.heap.push (nset w)).IsList b its := ⟨_, hob2, rfl, nl, rfl⟩
        have hsls := F.sub_list_set
        have hslf := F.sub_list_frozenset
        have hne : (Value.type "list" == Value.type "dict") = false := by decide
        unfold Builtin.«set.__init__» noKeywords Builtin.Frozenset.updateFrom
        generalize hPI : pyIter = PI
        wp_walk
        subst hPI
        refine wpAny_pyIter_list hl1 (wpAny_bind (wpAny_runValue ?_))
        have hlt : b < s.heap.objs.size := Heap.lt_size hob
        have hsz : (s.heap.push (nset w)).objs.size = s.heap.objs.size + 1 := Heap.size_push ..
        refine set_update_ints ((Walks.list (by simp [hh]) _ b (by rw [hsz]; exact Nat.ne_of_lt (Nat.lt_succ_of_lt hlt)) its).toS) s.heap.objs.size (by rw [hsz]; simp only [List.mem_cons, List.not_mem_nil, or_false, not_or]; exact ⟨Nat.ne_of_lt (Nat.lt_succ_self _), Nat.ne_of_gt hlt⟩) ns hn hz (fun i v hv => ?_) (its.size - 0) 0 _ (by omega) (Nat.zero_le _)
          ⟨⟨_, Heap.get?_push_size _ rfl, rfl, rfl⟩, hl1.push _⟩ ⟨0, Nat.le_refl 0, setR_new_at (Heap.get?_push_of_some _ hS)⟩ fun t c hm hc hR => ?_
        · have hi2 : i < ns.length := by rw [← hn]; exact (Array.getElem?_eq_some_iff.mp hv).1
          obtain ⟨tk, e⟩ := IntsAre.int_at hi i v (by rw [Array.getElem?_toList]; exact hv)
          refine ⟨ns[i], tk, List.getElem?_eq_getElem hi2, ?_⟩
          rw [e, List.getD_eq_getElem?_getD, List.getElem?_eq_getElem hi2]
          rfl
        · obtain ⟨h', g2, d', tk', os'⟩ := t
          have eg : g2 = s.gens := hm.gens
          have ed : d' = s.drawn := hm.drawn
          have eo : os' = s.os := hm.os
          subst eg; subst ed; subst eo
          show wpAny _ _ _ _ _ _
          refine wpAny_pure ?_
          show wpAny _ _ (PySem.ret Value.none) _ _ _
          rw [hn] at hc
          refine wpAny_pure ⟨rfl, h', tk', c, rfl, hR, hc, fun q o e => ?_⟩
          have hq : q < s.heap.objs.size := Heap.lt_size e
          exact hm.heap q o (by rw [hsz]; simp only [List.mem_cons, List.not_mem_nil, or_false, not_or]; exact ⟨Nat.ne_of_lt hq, Nat.ne_of_lt (Nat.lt_succ_of_lt hq)⟩) (Heap.get?_push_of_some _ (Heap.get?_push_of_some _ e))
      · cases r with
        | error e => exact hr
        | ok fl =>
          cases fl with
          | ret r =>
            obtain ⟨rfl, h', tk, c, rfl, hR, hc, hk⟩ := hr
            repeat (any_goals (first | assumption | wp_step))
            exact h _ _ _ hR hc hk
          | _ => exact hr.elim
end
end MP

set_option linter.all false
namespace MP
/-! ### sorted lists of ints -/
def ins (x : Int) : List Int → List Int
  | [] => [x]
  | y :: r => if x ≤ y then x :: y :: r else y :: ins x r
def srt : List Int → List Int
  | [] => []
  | x :: r => ins x (srt r)
theorem ins_perm (x : Int) : ∀ l : List Int, (ins x l).Perm (x :: l)
  | [] => List.Perm.refl _
  | y :: r => by
    unfold ins
    split
    · exact List.Perm.refl _
    · exact (List.Perm.cons y (ins_perm x r)).trans (List.Perm.swap x y r)
theorem srt_perm : ∀ l : List Int, (srt l).Perm l
  | [] => List.Perm.refl _
  | x :: r => (ins_perm x (srt r)).trans (List.Perm.cons x (srt_perm r))
theorem ins_sorted (x : Int) : ∀ l : List Int, l.Pairwise (· ≤ ·) → (ins x l).Pairwise (· ≤ ·)
  | [], _ => List.pairwise_singleton _ _
  | y :: r, h => by
    unfold ins
    rw [List.pairwise_cons] at h
    split
    · rename_i hxy
      refine List.pairwise_cons.mpr ⟨fun z hz => ?_, List.pairwise_cons.mpr h⟩
      rcases List.mem_cons.mp hz with rfl | hz
      · exact hxy
      · exact Int.le_trans hxy (h.1 z hz)
    · rename_i hxy
      refine List.pairwise_cons.mpr ⟨fun z hz => ?_, ins_sorted x r h.2⟩
      rcases List.mem_cons.mp ((ins_perm x r).mem_iff.mp hz) with rfl | hz
      · omega
      · exact h.1 z hz
theorem srt_sorted : ∀ l : List Int, (srt l).Pairwise (· ≤ ·)
  | [] => List.Pairwise.nil
  | x :: r => ins_sorted x _ (srt_sorted r)
theorem sorted_unique : ∀ (l m : List Int), l.Pairwise (· ≤ ·) → m.Pairwise (· ≤ ·) → l.Perm m → l = m
  | [], m, _, _, p => by rw [p.nil_eq]
  | x :: l, [], _, _, p => by have := p.length_eq; simp at this
  | x :: l, y :: m, hl, hm, p => by
    rw [List.pairwise_cons] at hl hm
    have hxy : x ≤ y := by
      rcases List.mem_cons.mp (p.mem_iff.mpr List.mem_cons_self) with e | h
      · omega
      · exact hl.1 y h
    have hyx : y ≤ x := by
      rcases List.mem_cons.mp (p.mem_iff.mp List.mem_cons_self) with e | h
      · omega
      · exact hm.1 x h
    have e : x = y := Int.le_antisymm hxy hyx
    subst e
    rw [sorted_unique l m hl.2 hm.2 (List.Perm.cons_inv p)]
theorem srt_unique {l m : List Int} (h : m.Pairwise (· ≤ ·)) (p : m.Perm l) : m = srt l := sorted_unique m (srt l) h (srt_sorted l) (p.trans (srt_perm l).symm)
/-! ### ascending without doubles -/
def uins (x : Int) : List Int → List Int
  | [] => [x]
  | y :: r => if x < y then x :: y :: r else if x = y then y :: r else y :: uins x r
def usrt : List Int → List Int
  | [] => []
  | x :: r => uins x (usrt r)
theorem mem_uins (x z : Int) : ∀ l : List Int, z ∈ uins x l ↔ z = x ∨ z ∈ l
  | [] => by simp [uins]
  | y :: r => by
    unfold uins
    split
    · simp
    · split
      · rename_i h
        subst h
        simp
      · simp only [List.mem_cons, mem_uins x z r]
        constructor
        · rintro (h | h | h)
          · exact .inr (.inl h)
          · exact .inl h
          · exact .inr (.inr h)
        · rintro (h | h | h)
          · exact .inr (.inl h)
          · exact .inl h
          · exact .inr (.inr h)
theorem mem_usrt (z : Int) : ∀ l : List Int, z ∈ usrt l ↔ z ∈ l
  | [] => by simp [usrt]
  | x :: r => by simp [usrt, mem_uins, mem_usrt z r]
theorem uins_sorted (x : Int) : ∀ l : List Int, l.Pairwise (· < ·) → (uins x l).Pairwise (· < ·)
  | [], _ => List.pairwise_singleton _ _
  | y :: r, h => by
    unfold uins
    have h0 := h
    rw [List.pairwise_cons] at h
    split
    · rename_i hxy
      refine List.pairwise_cons.mpr ⟨fun z hz => ?_, h0⟩
      rcases List.mem_cons.mp hz with rfl | hz
      · exact hxy
      · exact Int.lt_trans hxy (h.1 z hz)
    · split
      · exact h0
      · refine List.pairwise_cons.mpr ⟨fun z hz => ?_, uins_sorted x r h.2⟩
        rcases (mem_uins x z r).mp hz with rfl | hz
        · omega
        · exact h.1 z hz
theorem usrt_sorted : ∀ l : List Int, (usrt l).Pairwise (· < ·)
  | [] => List.Pairwise.nil
  | x :: r => uins_sorted x _ (usrt_sorted r)
theorem strict_unique : ∀ (l m : List Int), l.Pairwise (· < ·) → m.Pairwise (· < ·) → (∀ z, z ∈ l ↔ z ∈ m) → l = m
  | [], [], _, _, _ => rfl
  | [], y :: m, _, _, p => by have := (p y).mpr List.mem_cons_self; simp at this
  | x :: l, [], _, _, p => by have := (p x).mp List.mem_cons_self; simp at this
  | x :: l, y :: m, hl, hm, p => by
    rw [List.pairwise_cons] at hl hm
    have hxy : x ≤ y := by
      rcases List.mem_cons.mp ((p y).mpr List.mem_cons_self) with e | h
      · omega
      · exact Int.le_of_lt (hl.1 y h)
    have hyx : y ≤ x := by
      rcases List.mem_cons.mp ((p x).mp List.mem_cons_self) with e | h
      · omega
      · exact Int.le_of_lt (hm.1 x h)
    have e : x = y := Int.le_antisymm hxy hyx
    subst e
    rw [strict_unique l m hl.2 hm.2 fun z => ?_]
    constructor
    · intro hz
      rcases List.mem_cons.mp ((p z).mp (List.mem_cons_of_mem _ hz)) with e | h
      · have := hl.1 z hz; omega
      · exact h
    · intro hz
      rcases List.mem_cons.mp ((p z).mpr (List.mem_cons_of_mem _ hz)) with e | h
      · have := hm.1 z hz; omega
      · exact h
theorem usrt_unique {l m : List Int} (h : m.Pairwise (· < ·)) (p : ∀ z, z ∈ m ↔ z ∈ l) : m = usrt l := strict_unique m (usrt l) h (usrt_sorted l) fun z => (p z).trans (mem_usrt z l).symm
/-! ### the greatest, the least -/
def mx : List Int → Int
  | [] => 0
  | [x] => x
  | x :: y :: r => if x < mx (y :: r) then mx (y :: r) else x
def mn : List Int → Int
  | [] => 0
  | [x] => x
  | x :: y :: r => if mn (y :: r) < x then mn (y :: r) else x
theorem mx_spec : ∀ l : List Int, l ≠ [] → mx l ∈ l ∧ ∀ y ∈ l, y ≤ mx l
  | [], h => absurd rfl h
  | [x], _ => ⟨by simp [mx], by simp [mx]⟩
  | x :: y :: r, _ => by
    obtain ⟨h1, h2⟩ := mx_spec (y :: r) (by simp)
    unfold mx
    split
    · refine ⟨List.mem_cons_of_mem _ h1, fun z hz => ?_⟩
      rcases List.mem_cons.mp hz with rfl | hz
      · omega
      · exact h2 z hz
    · refine ⟨List.mem_cons_self, fun z hz => ?_⟩
      rcases List.mem_cons.mp hz with rfl | hz
      · omega
      · have := h2 z hz
        omega
theorem mn_spec : ∀ l : List Int, l ≠ [] → mn l ∈ l ∧ ∀ y ∈ l, mn l ≤ y
  | [], h => absurd rfl h
  | [x], _ => ⟨by simp [mn], by simp [mn]⟩
  | x :: y :: r, _ => by
    obtain ⟨h1, h2⟩ := mn_spec (y :: r) (by simp)
    unfold mn
    split
    · refine ⟨List.mem_cons_of_mem _ h1, fun z hz => ?_⟩
      rcases List.mem_cons.mp hz with rfl | hz
      · omega
      · exact h2 z hz
    · refine ⟨List.mem_cons_self, fun z hz => ?_⟩
      rcases List.mem_cons.mp hz with rfl | hz
      · omega
      · have := h2 z hz
        omega
theorem mx_unique {l : List Int} {m : Int} (h1 : m ∈ l) (h2 : ∀ y ∈ l, y ≤ m) : m = mx l := by
  have hn : l ≠ [] := fun e => by subst e; cases h1
  obtain ⟨a, b⟩ := mx_spec l hn
  exact Int.le_antisymm (b m h1) (h2 _ a)
theorem mn_unique {l : List Int} {m : Int} (h1 : m ∈ l) (h2 : ∀ y ∈ l, m ≤ y) : m = mn l := by
  have hn : l ≠ [] := fun e => by subst e; cases h1
  obtain ⟨a, b⟩ := mn_spec l hn
  exact Int.le_antisymm (h2 _ a) (b m h1)
end MP

set_option Elab.async false
set_option linter.all false
set_option maxRecDepth 100000
namespace MP
open PySem PySem.Spec PyProof.Rows L2

abbrev D := PyData
/-- what an expression comes to: a value, or an exception of the class with this name -/
inductive Res where
  | ok (d : D)
  | exc (c : Str)
inductive ResL where
  | ok (ds : List D)
  | exc (c : Str)
/-- a local's slot: nothing known, data that nobody changes, a list of our own, a dict of our own, a caught exception -/
inductive Sl where
  | un
  | dat (d : D)
  | own (ds : List D)
  | odc (kvs : List (D × D))
  | exc (c : Str)
abbrev En := List Sl
abbrev E := En → Option Res
abbrev EL := En → Option ResL
inductive Out where
  | nx (s : En)
  | rt (d : D)
  | exc (c : Str) (s : En)
  | bk (s : En)
  | ct (s : En)
abbrev S := En → Option Out

/-! ### data at a value -/
def keyD : Key → D
  | .inl i => .int i
  | .inr x => .str x
/-- a list that is read and is not our own -/
def SqO (K : PySem.W.Frag) (O : List Addr) (H : Hp) (a : Addr) (xs : List V) : Prop :=
  (Rd H a (.lst xs) ∧ a ∉ O) ∨ ∃ (o : Obj) (its : Array Value) (n : Nat), K.lookup a = some o ∧ o.cls = .type "list" ∧ o.dict = none ∧ o.data = .seq its n ∧ its.size ≤ sizeLine ∧ Vals xs its.toList
mutual
inductive Rp (K : PySem.W.Frag) (O : List Addr) (H : Hp) : V → D → Prop
  | non : Rp K O H .non .none
  | bl (b : Bool) : Rp K O H (.bl b) (.bool b)
  | int (i : Int) : Rp K O H (.int i) (.int i)
  | str (x : Str) : Rp K O H (.str x) (.str x)
  | lst {a : Addr} {xs : List V} {ds : List D} : SqO K O H a xs → RpAll K O H xs ds → Rp K O H (.ref a) (.list ds)
  | tup {a : Addr} {xs : List V} {ds : List D} : H a = some (.tup xs) → RpAll K O H xs ds → Rp K O H (.ref a) (.tuple ds)
  | dK {a : Addr} {kvs : List (Key × V)} {ds : List (D × D)} {od : Obj} : H a = some (.frz od (.dK kvs)) → a ∉ O → RpK K O H kvs ds → Rp K O H (.ref a) (.dict ds)
  | dT {a : Addr} {kvs : List (List Key × V)} {ds : List (D × D)} {od : Obj} : H a = some (.frz od (.dT kvs)) → a ∉ O → RpT K O H kvs ds → Rp K O H (.ref a) (.dict ds)
inductive RpAll (K : PySem.W.Frag) (O : List Addr) (H : Hp) : List V → List D → Prop
  | nil : RpAll K O H [] []
  | cons {v : V} {vs : List V} {d : D} {ds : List D} : Rp K O H v d → RpAll K O H vs ds → RpAll K O H (v :: vs) (d :: ds)
inductive RpK (K : PySem.W.Frag) (O : List Addr) (H : Hp) : List (Key × V) → List (D × D) → Prop
  | nil : RpK K O H [] []
  | cons {k : Key} {v : V} {kvs : List (Key × V)} {d : D} {ds : List (D × D)} : Rp K O H v d → RpK K O H kvs ds → RpK K O H ((k, v) :: kvs) ((keyD k, d) :: ds)
inductive RpT (K : PySem.W.Frag) (O : List Addr) (H : Hp) : List (List Key × V) → List (D × D) → Prop
  | nil : RpT K O H [] []
  | cons {k : List Key} {v : V} {kvs : List (List Key × V)} {d : D} {ds : List (D × D)} : Rp K O H v d → RpT K O H kvs ds → RpT K O H ((k, v) :: kvs) ((.tuple (k.map keyD), d) :: ds)
end
/-- .. where the list itself may be one of our own -/
def Rp1 (K : PySem.W.Frag) (O : List Addr) (H : Hp) (v : V) : D → Prop
  | .list ds => ∃ a xs, v = .ref a ∧ SqL K H a xs ∧ RpAll K O H xs ds
  | d => Rp K O H v d
def Rq (b : Bool) (K : PySem.W.Frag) (O : List Addr) (H : Hp) (v : V) (d : D) : Prop := match b with
  | true => Rp K O H v d
  | false => Rp1 K O H v d
section
variable {K : PySem.W.Frag} {O O' : List Addr} {H H' : Hp} {v : V} {d : D}
theorem SqO.seq {a : Addr} {xs : List V} (h : SqO K O H a xs) : SqL K H a xs := by
  rcases h with ⟨h, _⟩ | h
  · exact .inl h
  · exact .inr h
theorem Rp.one (h : Rp K O H v d) : Rp1 K O H v d := by
  cases h with
  | lst a c => exact ⟨_, _, rfl, a.seq, c⟩
  | dK a b c => exact .dK a b c
  | dT a b c => exact .dT a b c
  | non => exact .non
  | bl b => exact .bl b
  | int i => exact .int i
  | str x => exact .str x
  | tup a b => exact .tup a b
theorem Rp.q {b : Bool} (h : Rp K O H v d) : Rq b K O H v d := by
  cases b
  · exact h.one
  · exact h
theorem Rq.one {b : Bool} (h : Rq b K O H v d) : Rp1 K O H v d := by
  cases b
  · exact h
  · exact Rp.one h

/-- what an abstract heap and its own objects became: all that was not our own stands as it was and is still not our own -/
def Fr (O : List Addr) (H : Hp) (O' : List Addr) (H' : Hp) : Prop := ∀ a o, H a = some o → a ∉ O → H' a = some o ∧ a ∉ O'
theorem Fr.of_same (e : Same H H') : Fr O H O H' := fun a o h n => ⟨e a o h, n⟩
theorem Fr.refl : Fr O H O H := fun a o h n => ⟨h, n⟩
theorem Fr.trans {O1 O2 : List Addr} {H1 H2 : Hp} (a : Fr O H O1 H1) (b : Fr O1 H1 O2 H2) : Fr O H O2 H2 := fun c o h n => b c o (a c o h n).1 (a c o h n).2

theorem rdFr {a : Addr} {u : HO} (r : Rd H a u) (n : a ∉ O) (f : Fr O H O' H') : Rd H' a u ∧ a ∉ O' := by
  rcases r with r | ⟨o, r⟩
  · exact ⟨.inl (f a _ r n).1, (f a _ r n).2⟩
  · exact ⟨.inr ⟨o, (f a _ r n).1⟩, (f a _ r n).2⟩
/-- own objects are lists and dicts -/
def OwnOk (O : List Addr) (H : Hp) : Prop := ∀ a ∈ O, (∃ xs, H a = some (.lst xs)) ∨ (∃ kvs, H a = some (.dK kvs)) ∨ ∃ kvs, H a = some (.dT kvs)
theorem OwnOk.tup {a : Addr} {xs : List V} (ok : OwnOk O H) (h : Rd H a (.tup xs)) : a ∉ O := fun hm => by
  rcases ok a hm with ⟨z, e⟩ | ⟨z, e⟩ | ⟨z, e⟩ <;> rcases h with h | ⟨o, h⟩ <;> rw [e] at h <;> cases h
theorem OwnOk.frz {a : Addr} {o : Obj} {u : HO} (ok : OwnOk O H) (h : H a = some (.frz o u)) : a ∉ O := fun hm => by
  rcases ok a hm with ⟨z, e⟩ | ⟨z, e⟩ | ⟨z, e⟩ <;> rw [e] at h <;> cases h
/-- the frame that data bears: the lists that it holds are read off a tracked heap or the written part; nothing of the written part is our own -/
structure FrK (K : PySem.W.Frag) (O : List Addr) (H : Hp) (O' : List Addr) (H' : Hp) : Prop where
  fr : Fr O H O' H'
  ok : OwnOk O H
mutual
theorem Rp.fr : ∀ {v : V} {d : D}, Rp K O H v d → FrK K O H O' H' → Rp K O' H' v d
  | _, _, .non, _ => .non
  | _, _, .bl b, _ => .bl b
  | _, _, .int i, _ => .int i
  | _, _, .str x, _ => .str x
  | _, _, .lst a c, f => by
    rcases a with ⟨a, b⟩ | a
    · exact .lst (.inl (rdFr a b f.fr)) (RpAll.fr c f)
    · exact .lst (.inr a) (RpAll.fr c f)
  | _, _, .tup a c, f => .tup (f.fr _ _ a (f.ok.tup (.inl a))).1 (RpAll.fr c f)
  | _, _, .dK a b c, f => .dK (f.fr _ _ a b).1 (f.fr _ _ a b).2 (RpK.fr c f)
  | _, _, .dT a b c, f => .dT (f.fr _ _ a b).1 (f.fr _ _ a b).2 (RpT.fr c f)
theorem RpAll.fr : ∀ {vs : List V} {ds : List D}, RpAll K O H vs ds → FrK K O H O' H' → RpAll K O' H' vs ds
  | _, _, .nil, _ => .nil
  | _, _, .cons a b, f => .cons (Rp.fr a f) (RpAll.fr b f)
theorem RpK.fr : ∀ {vs : List (Key × V)} {ds : List (D × D)}, RpK K O H vs ds → FrK K O H O' H' → RpK K O' H' vs ds
  | _, _, .nil, _ => .nil
  | _, _, .cons a b, f => .cons (Rp.fr a f) (RpK.fr b f)
theorem RpT.fr : ∀ {vs : List (List Key × V)} {ds : List (D × D)}, RpT K O H vs ds → FrK K O H O' H' → RpT K O' H' vs ds
  | _, _, .nil, _ => .nil
  | _, _, .cons a b, f => .cons (Rp.fr a f) (RpT.fr b f)
end
theorem rdSame {a : Addr} {u : HO} (r : Rd H a u) (e : Same H H') : Rd H' a u := by
  rcases r with r | ⟨o, r⟩
  · exact .inl (e a _ r)
  · exact .inr ⟨o, e a _ r⟩
theorem sqoSame {a : Addr} {xs : List V} (r : SqO K O H a xs) (e : Same H H') : SqO K O H' a xs := by
  rcases r with ⟨r, n⟩ | r
  · exact .inl ⟨rdSame r e, n⟩
  · exact .inr r
theorem sqtSame {a : Addr} {xs : List V} (r : SqT K H a xs) (e : Same H H') : SqT K H' a xs := by
  rcases r with r | r
  · exact .inl (rdSame r e)
  · exact .inr r
mutual
theorem Rp.same : ∀ {v : V} {d : D}, Rp K O H v d → Same H H' → Rp K O H' v d
  | _, _, .non, _ => .non
  | _, _, .bl b, _ => .bl b
  | _, _, .int i, _ => .int i
  | _, _, .str x, _ => .str x
  | _, _, .lst a c, e => .lst (sqoSame a e) (RpAll.same c e)
  | _, _, .tup a c, e => .tup (e _ _ a) (RpAll.same c e)
  | _, _, .dK a b c, e => .dK (e _ _ a) b (RpK.same c e)
  | _, _, .dT a b c, e => .dT (e _ _ a) b (RpT.same c e)
theorem RpAll.same : ∀ {vs : List V} {ds : List D}, RpAll K O H vs ds → Same H H' → RpAll K O H' vs ds
  | _, _, .nil, _ => .nil
  | _, _, .cons a b, f => .cons (Rp.same a f) (RpAll.same b f)
theorem RpK.same : ∀ {vs : List (Key × V)} {ds : List (D × D)}, RpK K O H vs ds → Same H H' → RpK K O H' vs ds
  | _, _, .nil, _ => .nil
  | _, _, .cons a b, f => .cons (Rp.same a f) (RpK.same b f)
theorem RpT.same : ∀ {vs : List (List Key × V)} {ds : List (D × D)}, RpT K O H vs ds → Same H H' → RpT K O H' vs ds
  | _, _, .nil, _ => .nil
  | _, _, .cons a b, f => .cons (Rp.same a f) (RpT.same b f)
end
theorem Rp1.same (h : Rp1 K O H v d) (e : Same H H') : Rp1 K O H' v d := by
  cases d with
  | list ds => obtain ⟨a, xs, r, q, t⟩ := h; exact ⟨a, xs, r, e.seq q, t.same e⟩
  | dict ds => exact Rp.same h e
  | none => exact Rp.same h e
  | bool b => exact Rp.same h e
  | int i => exact Rp.same h e
  | str x => exact Rp.same h e
  | tuple xs => exact Rp.same h e
theorem Rq.same {b : Bool} (h : Rq b K O H v d) (e : Same H H') : Rq b K O H' v d := by
  cases b
  · exact Rp1.same h e
  · exact Rp.same h e
mutual
theorem Rp.sub : ∀ {v : V} {d : D}, Rp K O H v d → (∀ a ∈ O', a ∈ O) → Rp K O' H v d
  | _, _, .non, _ => .non
  | _, _, .bl b, _ => .bl b
  | _, _, .int i, _ => .int i
  | _, _, .str x, _ => .str x
  | _, _, .lst a c, f => .lst (by
      rcases a with ⟨r, n⟩ | r
      · exact .inl ⟨r, fun z => n (f _ z)⟩
      · exact .inr r) (RpAll.sub c f)
  | _, _, .tup a c, f => .tup a (RpAll.sub c f)
  | _, _, .dK a b c, f => .dK a (fun z => b (f _ z)) (RpK.sub c f)
  | _, _, .dT a b c, f => .dT a (fun z => b (f _ z)) (RpT.sub c f)
theorem RpAll.sub : ∀ {vs : List V} {ds : List D}, RpAll K O H vs ds → (∀ a ∈ O', a ∈ O) → RpAll K O' H vs ds
  | _, _, .nil, _ => .nil
  | _, _, .cons a b, f => .cons (Rp.sub a f) (RpAll.sub b f)
theorem RpK.sub : ∀ {vs : List (Key × V)} {ds : List (D × D)}, RpK K O H vs ds → (∀ a ∈ O', a ∈ O) → RpK K O' H vs ds
  | _, _, .nil, _ => .nil
  | _, _, .cons a b, f => .cons (Rp.sub a f) (RpK.sub b f)
theorem RpT.sub : ∀ {vs : List (List Key × V)} {ds : List (D × D)}, RpT K O H vs ds → (∀ a ∈ O', a ∈ O) → RpT K O' H vs ds
  | _, _, .nil, _ => .nil
  | _, _, .cons a b, f => .cons (Rp.sub a f) (RpT.sub b f)
end
/-- at a def's end nothing is our own any more -/
theorem Rp1.out (h : Rp1 K O H v d) : Rp K [] H v d := by
  have sub : ∀ a ∈ ([] : List Addr), a ∈ O := fun a z => nomatch z
  cases d with
  | list ds => obtain ⟨a, xs, rfl, q, t⟩ := h; exact .lst (by
      rcases q with r | r
      · exact .inl ⟨r, fun z => nomatch z⟩
      · exact .inr r) (t.sub sub)
  | dict ds => exact Rp.sub h sub
  | none => exact Rp.sub h sub
  | bool b => exact Rp.sub h sub
  | int i => exact Rp.sub h sub
  | str x => exact Rp.sub h sub
  | tuple xs => exact Rp.sub h sub
theorem RpAll.length : ∀ {vs : List V} {ds : List D}, RpAll K O H vs ds → vs.length = ds.length
  | _, _, .nil => rfl
  | _, _, .cons _ b => by simp [RpAll.length b]
theorem RpAll.get : ∀ {vs : List V} {ds : List D} {i : Nat} {d : D}, RpAll K O H vs ds → ds[i]? = some d → ∃ v, vs[i]? = some v ∧ Rp K O H v d
  | _, _, _, _, .nil, e => by simp at e
  | _, _, 0, _, .cons a _, e => by simp at e; subst e; exact ⟨_, rfl, a⟩
  | _, _, i + 1, d, .cons _ b, e => by
    obtain ⟨v, h1, h2⟩ := RpAll.get (i := i) (d := d) b (by simpa using e)
    exact ⟨v, by simpa using h1, h2⟩
theorem RpAll.app : ∀ {vs ws : List V} {ds es : List D}, RpAll K O H vs ds → RpAll K O H ws es → RpAll K O H (vs ++ ws) (ds ++ es)
  | _, _, _, _, .nil, s => s
  | _, _, _, _, .cons a b, s => .cons a (RpAll.app b s)
theorem RpAll.drop : ∀ {vs : List V} {ds : List D} (n : Nat), RpAll K O H vs ds → RpAll K O H (vs.drop n) (ds.drop n)
  | _, _, 0, r => r
  | _, _, _ + 1, .nil => .nil
  | _, _, n + 1, .cons _ t => RpAll.drop n t
theorem RpAll.take : ∀ {vs : List V} {ds : List D} (n : Nat), RpAll K O H vs ds → RpAll K O H (vs.take n) (ds.take n)
  | _, _, 0, _ => .nil
  | _, _, _ + 1, .nil => .nil
  | _, _, n + 1, .cons a t => .cons a (RpAll.take n t)
theorem RpAll.ints : ∀ {vs : List V} {ns : List Int}, RpAll K O H vs (ns.map PyData.int) → vs = ns.map V.int
  | _, [], .nil => rfl
  | _, n :: ns, .cons a b => by
    cases a
    rw [RpAll.ints b]; rfl
theorem RpAll.of_ints : ∀ {ns : List Int}, RpAll K O H (ns.map V.int) (ns.map PyData.int)
  | [] => .nil
  | n :: ns => .cons (.int n) RpAll.of_ints
theorem RpAll.bls : ∀ {vs : List V} {ns : List Bool}, RpAll K O H vs (ns.map PyData.bool) → vs = ns.map V.bl
  | _, [], .nil => rfl
  | _, n :: ns, .cons a b => by
    cases a
    rw [RpAll.bls b]; rfl
theorem RpAll.strs : ∀ {vs : List V} {ns : List Str}, RpAll K O H vs (ns.map PyData.str) → vs = ns.map V.str
  | _, [], .nil => rfl
  | _, n :: ns, .cons a b => by
    cases a
    rw [RpAll.strs b]; rfl
theorem RpAll.of_strs : ∀ {ns : List Str}, RpAll K O H (ns.map V.str) (ns.map PyData.str)
  | [] => .nil
  | n :: ns => .cons (.str n) RpAll.of_strs
mutual
def flat : D → Bool
  | .dict _ => false
  | .list xs => flatL xs
  | .tuple xs => flatL xs
  | _ => true
def flatL : List D → Bool
  | [] => true
  | x :: xs => flat x && flatL xs
end
mutual
theorem Rp.dp : ∀ {v : V} {d : D}, Rp K O H v d → flat d = true → Dp K H v d
  | _, _, .non, _ => .non
  | _, _, .bl b, _ => .bl b
  | _, _, .int i, _ => .int i
  | _, _, .str x, _ => .str x
  | _, _, .lst a c, f => .lst a.seq (RpAll.dp c (by simpa [flat] using f))
  | _, _, .tup a c, f => .tup (.inl (.inl a)) (RpAll.dp c (by simpa [flat] using f))
  | _, _, .dK a b c, f => by simp [flat] at f
  | _, _, .dT a b c, f => by simp [flat] at f
theorem RpAll.dp : ∀ {vs : List V} {ds : List D}, RpAll K O H vs ds → flatL ds = true → DpAll K H vs ds
  | _, _, .nil, _ => .nil
  | _, _, .cons a b, f => by
    simp [flatL] at f
    exact .cons (Rp.dp a f.1) (RpAll.dp b f.2)
end
theorem Rp1.dp (h : Rp1 K O H v d) (f : flat d = true) : Dp K H v d := by
  exact (Rp1.out h).dp f
end
end MP

set_option Elab.async false
set_option linter.all false
set_option maxRecDepth 100000
namespace MP
open PySem PySem.Spec PyProof.Rows L2

/-! ### new lists -/
inductive Lv where
  | w | s | f
/-- a new list or dict (H0: the heap ahead) -/
def Rf (K : PySem.W.Frag) (O : List Addr) (H0 H : Hp) (v : V) : D → Prop
  | .list ds => ∃ a xs, v = .ref a ∧ H0 a = none ∧ H a = some (.lst xs) ∧ RpAll K (a :: O) H xs ds
  | d => Rp K O H v d
def Rv (l : Lv) (K : PySem.W.Frag) (O : List Addr) (H0 H : Hp) (v : V) (d : D) : Prop := match l with
  | .w => Rp1 K O H v d
  | .s => Rp K O H v d
  | .f => Rf K O H0 H v d
section
variable {K : PySem.W.Frag} {O O' : List Addr} {H0 H H' : Hp} {v : V} {d : D}
theorem OwnOk.fresh {a : Addr} (ok : OwnOk O H) (h : H a = none) : a ∉ O := fun hm => by
  rcases ok a hm with ⟨z, e⟩ | ⟨z, e⟩ | ⟨z, e⟩ <;> rw [e] at h <;> cases h
theorem fr_new {p : Addr} {o : HO} (hp : H p = none) : Fr O H (p :: O) (upd H p o) := fun a u h n => by
  have hne : a ≠ p := fun e => by rw [e, hp] at h; cases h
  exact ⟨by rw [upd_ne hne]; exact h, fun z => (List.mem_cons.mp z).elim hne n⟩
/-- items of what is laid now do not hold it -/
theorem rp_new {p : Addr} {o : HO} {xs : List V} {ds : List D} (h : RpAll K O H xs ds) (ok : OwnOk O H) (hp : H p = none) : RpAll K (p :: O) (upd H p o) xs ds := h.fr ⟨fr_new hp, ok⟩
theorem Rf.rp (h : Rf K O H0 H v d) (ok : OwnOk O H0) : Rp K O H v d := by
  cases d with
  | list ds => obtain ⟨a, xs, rfl, h0, q, t⟩ := h; exact .lst (.inl ⟨.inl q, ok.fresh h0⟩) (t.sub fun b hb => List.mem_cons_of_mem _ hb)
  | dict ds => exact h
  | none => exact h
  | bool b => exact h
  | int i => exact h
  | str x => exact h
  | tuple xs => exact h
theorem Rv.rp1 {l : Lv} (h : Rv l K O H0 H v d) (ok : OwnOk O H0) : Rp1 K O H v d := by
  cases l
  · exact h
  · exact Rp.one h
  · exact Rp.one (Rf.rp h ok)
theorem Rv.pre {l : Lv} {H00 : Hp} (h : Rv l K O H0 H v d) (e : Same H00 H0) : Rv l K O H00 H v d := by
  cases l
  · exact h
  · exact h
  · show Rf K O H00 H v d
    cases d with
    | list ds => obtain ⟨a, xs, rfl, h0, q, t⟩ := h; exact ⟨a, xs, rfl, e.free h0, q, t⟩
    | dict ds => exact h
    | none => exact h
    | bool b => exact h
    | int i => exact h
    | str x => exact h
    | tuple xs => exact h
theorem Rp.pair {vs : List V} {ds : List D} : RpAll K O H vs ds → Paired (Rp1 K O H) vs ds := by
  intro h
  induction ds generalizing vs with
  | nil => cases h; exact .nil
  | cons d ds ih => cases h with | cons a b => exact .cons a.one (ih b)
theorem pair_out {vs : List V} {ds : List D} : Paired (Rp1 K O H) vs ds → RpAll K [] H vs ds := by
  intro h
  induction ds generalizing vs with
  | nil => cases h; exact .nil
  | cons d ds ih => cases h with | cons a b => exact .cons a.out (ih b)
theorem pair_same {vs : List V} {ds : List D} (e : Same H H') : Paired (Rp1 K O H) vs ds → Paired (Rp1 K O H') vs ds := by
  intro h
  induction ds generalizing vs with
  | nil => cases h; exact .nil
  | cons d ds ih => cases h with | cons a b => exact .cons (a.same e) (ih b)
end
def RvA (l : Lv) (K : PySem.W.Frag) (O : List Addr) (H : Hp) (vs : List V) (ds : List D) : Prop := match l with
  | .w => Paired (Rp1 K O H) vs ds
  | _ => RpAll K O H vs ds

/-! ### slots -/
def ownAt (m : En) (i : Nat) : Prop := (∃ ds, m[i]? = some (.own ds)) ∨ ∃ ds, m[i]? = some (.odc ds)
structure RefK (K : PySem.W.Frag) (hd : Option Value) (O : List Addr) (m : En) (σ : L2.St) (H : Hp) : Prop where
  len : σ.length = m.length
  dat : ∀ (i : Nat) (d : D), m[i]? = some (.dat d) → ∃ v, σ[i]? = some (some v) ∧ Rp K O H v d
  own : ∀ (i : Nat) (ds : List D), m[i]? = some (.own ds) → ∃ a xs, σ[i]? = some (some (.ref a)) ∧ a ∈ O ∧ H a = some (.lst xs) ∧ RpAll K O H xs ds
  odc : ∀ (i : Nat) (ds : List (D × D)), m[i]? = some (.odc ds) → ∃ a, σ[i]? = some (some (.ref a)) ∧ a ∈ O ∧ ((∃ kvs, H a = some (.dK kvs) ∧ RpK K O H kvs ds) ∨ ∃ kvs, H a = some (.dT kvs) ∧ RpT K O H kvs ds)
  inj : ∀ (i j : Nat) (a : Addr), ownAt m i → ownAt m j → σ[i]? = some (some (.ref a)) → σ[j]? = some (some (.ref a)) → i = j
  exc : ∀ (i : Nat) (c : Str), m[i]? = some (.exc c) → ∃ a, σ[i]? = some (some (.ref a)) ∧ hd = some (.ref a)
  ok : OwnOk O H
/-- .. in a context: its written part, its handled exception -/
abbrev Ref (X : Cx) (O : List Addr) (m : En) (σ : L2.St) (H : Hp) : Prop := RefK X.K X.A.handled O m σ H
theorem OwnOk.same {O : List Addr} {H H' : Hp} (h : OwnOk O H) (e : Same H H') : OwnOk O H' := fun a ha => by
  rcases h a ha with ⟨z, q⟩ | ⟨z, q⟩ | ⟨z, q⟩
  · exact .inl ⟨z, e _ _ q⟩
  · exact .inr (.inl ⟨z, e _ _ q⟩)
  · exact .inr (.inr ⟨z, e _ _ q⟩)
theorem RefK.same {K : PySem.W.Frag} {hd : Option Value} {O : List Addr} {m : En} {σ : L2.St} {H H' : Hp} (r : RefK K hd O m σ H) (e : Same H H') : RefK K hd O m σ H' where
  len := r.len
  dat := fun i d h => let ⟨v, a, b⟩ := r.dat i d h; ⟨v, a, b.same e⟩
  own := fun i ds h => let ⟨a, xs, h1, h2, h3, h4⟩ := r.own i ds h; ⟨a, xs, h1, h2, e _ _ h3, h4.same e⟩
  odc := fun i ds h => by
    obtain ⟨a, h1, h2, ⟨kvs, q, t⟩ | ⟨kvs, q, t⟩⟩ := r.odc i ds h
    · exact ⟨a, h1, h2, .inl ⟨kvs, e _ _ q, t.same e⟩⟩
    · exact ⟨a, h1, h2, .inr ⟨kvs, e _ _ q, t.same e⟩⟩
  inj := r.inj
  exc := r.exc
  ok := r.ok.same e

/-! ### the judgements -/
def RdE (l : Lv) (X : Cx) (W : WX) (f : E) : TE := fun σ H Q => ∃ O m, Ref X O m σ H ∧ match f m with
  | some (.ok d) => ∀ H' v, Same H H' → Rv l X.K O H H' v d → Q v H'
  | some (.exc c) => ∀ H' C, Same H H' → X.mg c = some (.ref C) → W (.ref C) none σ H'
  | none => False
def RdT (X : Cx) (W : WX) (f : E) : TT := fun σ H Q => ∃ O m, Ref X O m σ H ∧ match f m with
  | some (.ok (.bool b)) => ∀ H', Same H H' → Q b H'
  | some (.ok _) => False
  | some (.exc c) => ∀ H' C, Same H H' → X.mg c = some (.ref C) → W (.ref C) none σ H'
  | none => False
def RdA (l : Lv) (X : Cx) (W : WX) (f : EL) : TA := fun σ H Q => ∃ O m, Ref X O m σ H ∧ match f m with
  | some (.ok ds) => ∀ H' vs, Same H H' → RvA l X.K O H' vs ds → Q vs H'
  | some (.exc c) => ∀ H' C, Same H H' → X.mg c = some (.ref C) → W (.ref C) none σ H'
  | none => False
structure JE (l : Lv) (X : Cx) (W : WX) (e : Expr) (f : E) : Prop where
  pe : PE X e (RdE l X W f)
structure JT (X : Cx) (W : WX) (e : Expr) (f : E) : Prop where
  pt : PT X e (RdT X W f)
def JA (l : Lv) (X : Cx) (W : WX) (es : List Expr) (f : EL) : Prop := PA X es (RdA l X W f)
theorem PE.imp {X : Cx} {e : Expr} {t t' : TE} (h : PE X e t) (i : ∀ σ H Q, t' σ H Q → t σ H Q) : PE X e t' := ⟨fun pins s σ H Q I q => h.run pins s σ H Q I (i σ H Q q)⟩
theorem PT.imp {X : Cx} {e : Expr} {t t' : TT} (h : PT X e t) (i : ∀ σ H Q, t' σ H Q → t σ H Q) : PT X e t' := ⟨fun pins s σ H Q I q => h.run pins s σ H Q I (i σ H Q q)⟩
theorem PA.imp {X : Cx} {e : List Expr} {t t' : TA} (h : PA X e t) (i : ∀ σ H Q, t' σ H Q → t σ H Q) : PA X e t' := ⟨fun pos pins s σ H Q I q => h.run pos pins s σ H Q I (i σ H Q q)⟩
theorem PS.imp {X : Cx} {e : Stmt} {t t' : TS} (h : PS X e t) (i : ∀ Q σ H, t' Q σ H → t Q σ H) : PS X e t' := ⟨fun pins s σ H Q I q => h.run pins s σ H Q I (i Q σ H q)⟩
theorem PSs.imp {X : Cx} {e : List Stmt} {t t' : TS} (h : PSs X e t) (i : ∀ Q σ H, t' Q σ H → t Q σ H) : PSs X e t' := ⟨fun pins s σ H Q I q => h.run pins s σ H Q I (i Q σ H q)⟩
section
variable {X : Cx} {W : WX} {l : Lv} {e : Expr} {f : E}
/-- a test by its value -/
theorem test_of {σ : L2.St} {H : Hp} {Q : Bool → Hp → Prop} (h : RdT X W f σ H Q) : RdE l X W f σ H (fun x H1 => ∃ c, x = .bl c ∧ Q c H1) := by
  obtain ⟨O, m, r, q⟩ := h
  refine ⟨O, m, r, ?_⟩
  cases hf : f m with
  | none => rw [hf] at q; exact q
  | some z =>
    rw [hf] at q
    cases z with
    | exc c => exact q
    | ok d =>
      cases d with
      | bool b =>
        intro H' v e1 e2
        have e3 : Rp X.K O H' v (.bool b) := by
          cases l
          · exact e2
          · exact e2
          · exact e2
        cases e3
        exact ⟨b, rfl, q H' e1⟩
      | none => exact q.elim
      | int i => exact q.elim
      | str x => exact q.elim
      | list xs => exact q.elim
      | tuple xs => exact q.elim
      | dict xs => exact q.elim
theorem t_val (h : JE l X W e f) (he : ∀ whole, isTrue e X.env whole = (do let v ← whole; standAt e.pos; holding [v] (truthy v)) := by intro _; rfl) : JT X W e f :=
  ⟨PT.imp (pt_val h.pe he) fun _ _ _ q => test_of q⟩
theorem JE.weak (h : JE l X W e f) : JE .w X W e f := ⟨PE.imp h.pe fun σ H Q ⟨O, m, r, q⟩ => ⟨O, m, r, by
  cases hf : f m with
  | none => rw [hf] at q; exact q
  | some z =>
    rw [hf] at q
    cases z with
    | exc c => exact q
    | ok d => exact fun H' v e1 e2 => q H' v e1 (e2.rp1 r.ok)⟩⟩
theorem JE.strong (h : JE .f X W e f) : JE .s X W e f := ⟨PE.imp h.pe fun σ H Q ⟨O, m, r, q⟩ => ⟨O, m, r, by
  cases hf : f m with
  | none => rw [hf] at q; exact q
  | some z =>
    rw [hf] at q
    cases z with
    | exc c => exact q
    | ok d => exact fun H' v e1 e2 => q H' v e1 (Rf.rp e2 r.ok)⟩⟩
end

/-! ### combinators -/
def bnd (x : Option Res) (k : D → Option Res) : Option Res := match x with
  | some (.ok d) => k d
  | some (.exc c) => some (.exc c)
  | none => none
def bndL (x : Option ResL) (k : List D → Option Res) : Option Res := match x with
  | some (.ok d) => k d
  | some (.exc c) => some (.exc c)
  | none => none
def ret (x : Option D) : Option Res := match x with
  | some d => some (.ok d)
  | none => none
def eVar (i : Nat) : E := fun m => match m[i]? with
  | some (.dat d) => some (.ok d)
  | some (.own ds) => some (.ok (.list ds))
  | _ => none
def eVarS (i : Nat) : E := fun m => match m[i]? with
  | some (.dat d) => some (.ok d)
  | _ => none
def eC (d : D) : E := fun _ => some (.ok d)
def eOp1 (g : D → Option D) (a : E) : E := fun m => bnd (a m) fun x => ret (g x)
def eOp2 (g : D → D → Option D) (a b : E) : E := fun m => bnd (a m) fun x => bnd (b m) fun y => ret (g x y)
def elNil : EL := fun _ => some (.ok [])
def elCons (a : E) (r : EL) : EL := fun m => match a m with
  | some (.ok d) => (match r m with
    | some (.ok ds) => some (.ok (d :: ds))
    | some (.exc c) => some (.exc c)
    | none => none)
  | some (.exc c) => some (.exc c)
  | none => none
def eFn (g : List D → Option Res) (es : EL) : E := fun m => bndL (es m) g
def eNot (a : E) : E := fun m => bnd (a m) fun x => match x with
  | .bool b => some (.ok (.bool (!b)))
  | _ => none
def eAnd (a b : E) : E := fun m => bnd (a m) fun x => match x with
  | .bool true => b m
  | .bool false => some (.ok (.bool false))
  | _ => none
def eOr (a b : E) : E := fun m => bnd (a m) fun x => match x with
  | .bool false => b m
  | .bool true => some (.ok (.bool true))
  | _ => none
def eIte (c a b : E) : E := fun m => bnd (c m) fun x => match x with
  | .bool true => a m
  | .bool false => b m
  | _ => none
def eChain (g1 g2 : D → D → Option D) (a b c : E) : E := fun m => bnd (a m) fun x => bnd (b m) fun y => bnd (ret (g1 x y)) fun z => match z with
  | .bool true => bnd (c m) fun u => ret (g2 y u)
  | .bool false => some (.ok (.bool false))
  | _ => none

/-! ### elementary rules -/
section
variable {X : Cx} {W : WX} {l l1 l2 l3 : Lv} {a b c : Expr} {fa fb fc : E} {pos : Pos}
/-- the core of most rules: one part, then a rest -/
theorem rd1 {l : Lv} {f : E} {k : D → Option Res} {σ : L2.St} {H : Hp} {O : List Addr} {m : En} {P : V → Hp → Prop} {Z : Option Res → Hp → Prop} (r : Ref X O m σ H)
    (h : match bnd (f m) k with
      | some (.ok d) => Z (some (.ok d)) H
      | some (.exc c) => ∀ H' C, Same H H' → X.mg c = some (.ref C) → W (.ref C) none σ H'
      | none => False)
    (step : ∀ d H' v, f m = some (.ok d) → Same H H' → Rv l X.K O H H' v d → P v H') : RdE l X W f σ H P := by
  refine ⟨O, m, r, ?_⟩
  cases hf : f m with
  | none => rw [hf] at h; exact h
  | some z =>
    cases z with
    | exc c => rw [hf] at h; exact h
    | ok d => exact fun H' v e1 e2 => step d H' v hf e1 e2
theorem j_var {i : Nat} {x : Str} (hN : X.N[i]? = some x) (hv : Vis X.env.scope x) (hd : (x == ("__debug__" : Str)) = false := by decide) (hcd : (x == ("__classdict__" : Str)) = false := by decide) : JE .w X W (.Name x pos) (eVar i) := by
  refine ⟨PE.imp (pe_var hN hv hd hcd) ?_⟩
  intro σ H Q ⟨O, m, r, q⟩
  unfold eVar at q
  cases hm : m[i]? with
  | none => rw [hm] at q; exact q.elim
  | some z =>
    rw [hm] at q
    cases z with
    | un => exact q.elim
    | exc c => exact q.elim
    | dat d =>
      obtain ⟨v, e1, e2⟩ := r.dat i d hm
      exact ⟨v, e1, q H v (Same.refl H) e2.one⟩
    | own ds =>
      obtain ⟨a, xs, e1, e2, e3, e4⟩ := r.own i ds hm
      exact ⟨.ref a, e1, q H _ (Same.refl H) ⟨a, xs, rfl, .inl (.inl e3), e4⟩⟩
    | odc ds => exact q.elim
theorem j_varS {i : Nat} {x : Str} (hN : X.N[i]? = some x) (hv : Vis X.env.scope x) (hd : (x == ("__debug__" : Str)) = false := by decide) (hcd : (x == ("__classdict__" : Str)) = false := by decide) : JE .s X W (.Name x pos) (eVarS i) := by
  refine ⟨PE.imp (pe_var hN hv hd hcd) ?_⟩
  intro σ H Q ⟨O, m, r, q⟩
  unfold eVarS at q
  cases hm : m[i]? with
  | none => rw [hm] at q; exact q.elim
  | some z =>
    rw [hm] at q
    cases z with
    | un => exact q.elim
    | exc c => exact q.elim
    | dat d =>
      obtain ⟨v, e1, e2⟩ := r.dat i d hm
      exact ⟨v, e1, q H v (Same.refl H) e2⟩
    | own ds => exact q.elim
    | odc ds => exact q.elim
end
end MP

set_option Elab.async false
set_option linter.all false
set_option maxRecDepth 100000
namespace MP
open PySem PySem.Spec PyProof.Rows L2
section
variable {X : Cx} {W : WX} {l l1 l2 l3 : Lv} {a b c : Expr} {fa fb fc : E} {pos : Pos}
theorem Rv.scal {l : Lv} {K : PySem.W.Frag} {O : List Addr} {H0 H : Hp} {v : V} {d : D} (h : Rp K O H v d) (hd : (∀ ds, d ≠ .list ds) ∧ ∀ ds, d ≠ .dict ds) : Rv l K O H0 H v d := by
  cases l
  · exact h.one
  · exact h
  · show Rf K O H0 H v d
    cases d with
    | list ds => exact absurd rfl (hd.1 ds)
    | dict ds => exact absurd rfl (hd.2 ds)
    | none => exact h
    | bool b => exact h
    | int i => exact h
    | str x => exact h
    | tuple xs => exact h
theorem Rv.of_int {l : Lv} {K : PySem.W.Frag} {O : List Addr} {H0 H : Hp} {i : Int} : Rv l K O H0 H (.int i) (.int i) := Rv.scal (.int i) ⟨fun _ => nofun, fun _ => nofun⟩
theorem Rv.of_str {l : Lv} {K : PySem.W.Frag} {O : List Addr} {H0 H : Hp} {i : Str} : Rv l K O H0 H (.str i) (.str i) := Rv.scal (.str i) ⟨fun _ => nofun, fun _ => nofun⟩
theorem Rv.of_bl {l : Lv} {K : PySem.W.Frag} {O : List Addr} {H0 H : Hp} {i : Bool} : Rv l K O H0 H (.bl i) (.bool i) := Rv.scal (.bl i) ⟨fun _ => nofun, fun _ => nofun⟩
theorem Rv.of_non {l : Lv} {K : PySem.W.Frag} {O : List Addr} {H0 H : Hp} : Rv l K O H0 H .non .none := Rv.scal .non ⟨fun _ => nofun, fun _ => nofun⟩
theorem j_int {i : Int} {j} : JE l X W (.Constant (.int i) j pos) (eC (.int i)) := ⟨PE.imp pe_int fun _ H _ ⟨_, _, _, q⟩ => q H _ (Same.refl H) .of_int⟩
theorem j_bl {i : Bool} {j} : JE l X W (.Constant (.bool i) j pos) (eC (.bool i)) := ⟨PE.imp pe_bl fun _ H _ ⟨_, _, _, q⟩ => q H _ (Same.refl H) .of_bl⟩
theorem j_str {i : Str} {j} : JE l X W (.Constant (.str i) j pos) (eC (.str i)) := ⟨PE.imp pe_str fun _ H _ ⟨_, _, _, q⟩ => q H _ (Same.refl H) .of_str⟩
theorem j_non {j} : JE l X W (.Constant .none j pos) (eC .none) := ⟨PE.imp pe_non fun _ H _ ⟨_, _, _, q⟩ => q H _ (Same.refl H) .of_non⟩
theorem j_gint {x : Str} {i : Int} {t : Tok} (hm : X.mg x = some (.int i t)) (hg : Gl X x) (hd : (x == ("__debug__" : Str)) = false := by decide) : JE l X W (.Name x pos) (eC (.int i)) :=
  ⟨PE.imp (pe_glob (v := .int i) hg hm ⟨_, rfl⟩ hd) fun _ H _ ⟨_, _, _, q⟩ => q H _ (Same.refl H) .of_int⟩
theorem j_gstr {x : Str} {i : Str} {t : Tok} (hm : X.mg x = some (.str i t)) (hg : Gl X x) (hd : (x == ("__debug__" : Str)) = false := by decide) : JE l X W (.Name x pos) (eC (.str i)) :=
  ⟨PE.imp (pe_glob (v := .str i) hg hm ⟨_, rfl⟩ hd) fun _ H _ ⟨_, _, _, q⟩ => q H _ (Same.refl H) .of_str⟩

/-! ### two parts -/
theorem rd2 {σ : L2.St} {H : Hp} {k : D → D → Option Res} {R : V → V → Hp → Prop} {O : List Addr} {m : En} (r : Ref X O m σ H) (hw : ∀ {c H' C}, (bnd (fa m) fun x => bnd (fb m) fun y => k x y) = some (.exc c) → Same H H' → X.mg c = some (.ref C) → W (.ref C) none σ H')
    (hn : (bnd (fa m) fun x => bnd (fb m) fun y => k x y) ≠ none)
    (step : ∀ dx dy H1 H2 x y, fa m = some (.ok dx) → fb m = some (.ok dy) → Same H H1 → Same H1 H2 → Rv l1 X.K O H H1 x dx → Rv l2 X.K O H1 H2 y dy → R x y H2) :
    RdE l1 X W fa σ H fun x H1 => RdE l2 X W fb σ H1 fun y H2 => R x y H2 := by
  refine ⟨O, m, r, ?_⟩
  cases hf : fa m with
  | none => rw [hf] at hn; exact hn rfl
  | some z =>
    cases z with
    | exc c => exact fun H' C e1 e2 => hw (c := c) (by rw [hf]; rfl) e1 e2
    | ok dx =>
      intro H1 x e1 r1
      refine ⟨O, m, r.same e1, ?_⟩
      cases hg : fb m with
      | none => rw [hf, hg] at hn; exact hn rfl
      | some z =>
        cases z with
        | exc c => exact fun H' C e2 e3 => hw (c := c) (by rw [hf, hg]; rfl) (e1.trans e2) e3
        | ok dy => exact fun H2 y e2 r2 => step dx dy H1 H2 x y hf hg e1 e2 r1 r2
/-- what is asked of an operation on data: from values of such data the rule's reading -/
def OpD (K : PySem.W.Frag) (l : Lv) (r : R2) (g : D → D → Option D) : Prop := ∀ (O : List Addr) (H : Hp) (x y : V) (dx dy d : D) (Q : VK), OwnOk O H → Rp1 K O H x dx → Rp1 K O H y dy → g dx dy = some d →
  (∀ H' v, Same H H' → Rv l K O H H' v d → Q v H') → r x y H Q
theorem op2_core {r : R2} {g : D → D → Option D} (hg : OpD X.K l r g) {σ : L2.St} {H : Hp} {Q : VK} (q : RdE l X W (eOp2 g fa fb) σ H Q) : tOp r (RdE l1 X W fa) (RdE l2 X W fb) σ H Q := by
  obtain ⟨O, m, rf, q⟩ := q
  refine rd2 (k := fun x y => ret (g x y)) rf (fun {c H' C} h1 h2 h3 => ?_) (fun h => ?_) fun dx dy H1 H2 x y h1 h2 e1 e2 r1 r2 => ?_
  · rw [show eOp2 g fa fb m = some (.exc c) from h1] at q
    exact q H' C h2 h3
  · rw [show eOp2 g fa fb m = none from h] at q
    exact q
  · have hr : eOp2 g fa fb m = ret (g dx dy) := by unfold eOp2; rw [h1, h2]; rfl
    rw [hr] at q
    cases hgd : g dx dy with
    | none => rw [hgd] at q; exact q.elim
    | some d =>
      rw [hgd] at q
      refine hg O H2 x y dx dy d Q ((rf.ok.same e1).same e2) ((r1.rp1 rf.ok).same e2) (r2.rp1 (rf.ok.same e1)) hgd fun H' v e3 r3 => q H' v ((e1.trans e2).trans e3) (r3.pre (e1.trans e2))
theorem j_bin {op : Operator} {r : R2} {g : D → D → Option D} (ho : OpR X (binaryOp op) r) (hg : OpD X.K l r g) (ha : JE l1 X W a fa) (hb : JE l2 X W b fb) : JE l X W (.BinOp a op b pos) (eOp2 g fa fb) :=
  ⟨PE.imp (pe_op ho ha.pe hb.pe) fun _ _ _ q => op2_core hg q⟩
theorem j_cmp {op : CmpOp} {r : R2} {g : D → D → Option D} (ho : OpR X (compareOp op) r) (hg : OpD X.K .s r g) (ha : JE l1 X W a fa) (hb : JE l2 X W b fb) (hm : behindInMarks op b = false) : JE .s X W (.Compare a [op] [b] pos) (eOp2 g fa fb) :=
  ⟨PE.imp (pe_cmpR ho ha.pe hb.pe hm) fun _ _ _ q => op2_core hg q⟩
theorem t_cmp {op : CmpOp} {r : R2} {g : D → D → Option D} (ho : OpR X (compareOp op) r) (hg : OpD X.K .s r g) (ha : JE l1 X W a fa) (hb : JE l2 X W b fb) (hm : behindInMarks op b = false) : JT X W (.Compare a [op] [b] pos) (eOp2 g fa fb) :=
  ⟨PT.imp (pt_cmpR ho ha.pe hb.pe hm) fun _ _ _ q => op2_core hg (test_of q)⟩
/-! ### one part -/
def OpD1 (K : PySem.W.Frag) (l : Lv) (r : V → Hp → VK → Prop) (g : D → Option D) : Prop := ∀ (O : List Addr) (H : Hp) (x : V) (dx d : D) (Q : VK), OwnOk O H → Rp1 K O H x dx → g dx = some d →
  (∀ H' v, Same H H' → Rv l K O H H' v d → Q v H') → r x H Q
theorem op1_core {r : V → Hp → VK → Prop} {g : D → Option D} (hg : OpD1 X.K l r g) {σ : L2.St} {H : Hp} {Q : VK} (q : RdE l X W (eOp1 g fa) σ H Q) : tUn r (RdE l1 X W fa) σ H Q := by
  obtain ⟨O, m, rf, q⟩ := q
  refine ⟨O, m, rf, ?_⟩
  unfold eOp1 at q
  cases hf : fa m with
  | none => rw [hf] at q; exact q
  | some z =>
    rw [hf] at q
    cases z with
    | exc c => exact q
    | ok dx =>
      intro H1 x e1 r1
      dsimp only [bnd] at q
      cases hgd : g dx with
      | none => rw [hgd] at q; exact q.elim
      | some d =>
        rw [hgd] at q
        exact hg O H1 x dx d Q (rf.ok.same e1) (r1.rp1 rf.ok) hgd fun H' v e3 r3 => q H' v (e1.trans e3) (r3.pre e1)
theorem j_un {op : UnaryOp} {r : V → Hp → VK → Prop} {g : D → Option D} (ho : UnR X (unaryOp op) r) (hg : OpD1 X.K l r g) (ha : JE l1 X W a fa) : JE l X W (.UnaryOp op a pos) (eOp1 g fa) :=
  ⟨PE.imp (pe_un ho ha.pe) fun _ _ _ q => op1_core hg q⟩
/-! ### not, and, or, if-else -/
theorem j_not (ha : JE l1 X W a fa) : JE l X W (.UnaryOp .Not a pos) (eNot fa) := by
  refine ⟨PE.imp (pe_not ha.pe) ?_⟩
  intro σ H Q ⟨O, m, rf, q⟩
  refine ⟨O, m, rf, ?_⟩
  unfold eNot at q
  cases hf : fa m with
  | none => rw [hf] at q; exact q
  | some z =>
    rw [hf] at q
    cases z with
    | exc c => exact q
    | ok dx =>
      intro H1 x e1 r1
      cases dx with
      | bool b => cases (show Rp X.K O H1 x (.bool b) from r1.rp1 rf.ok); exact ⟨b, rfl, q H1 _ e1 .of_bl⟩
      | none => exact q.elim
      | int i => exact q.elim
      | str x => exact q.elim
      | list xs => exact q.elim
      | tuple xs => exact q.elim
      | dict xs => exact q.elim
/-- a test's reading, from the semantics of a longer test -/
theorem rdt1 {k : D → Option Res} {σ : L2.St} {H : Hp} {P : Bool → Hp → Prop} {O : List Addr} {m : En} (r : Ref X O m σ H) (hw : ∀ {c H' C}, bnd (fa m) k = some (.exc c) → Same H H' → X.mg c = some (.ref C) → W (.ref C) none σ H')
    (hn : bnd (fa m) k ≠ none) (hk : ∀ d, (∀ b, d ≠ PyData.bool b) → k d = none) (step : ∀ b H1, fa m = some (.ok (.bool b)) → Same H H1 → P b H1) : RdT X W fa σ H P := by
  refine ⟨O, m, r, ?_⟩
  cases hf : fa m with
  | none => rw [hf] at hn; exact hn rfl
  | some z =>
    cases z with
    | exc c => exact fun H' C e1 e2 => hw (c := c) (by rw [hf]; rfl) e1 e2
    | ok dx =>
      have hd : ∀ d, dx = d → (∀ b, d ≠ PyData.bool b) → False := fun d e h => by
        subst e
        rw [hf] at hn
        exact hn (hk dx h)
      cases dx with
      | bool b => exact fun H1 e1 => step b H1 hf e1
      | none => exact hd _ rfl (fun _ => nofun)
      | int i => exact hd _ rfl (fun _ => nofun)
      | str x => exact hd _ rfl (fun _ => nofun)
      | list xs => exact hd _ rfl (fun _ => nofun)
      | tuple xs => exact hd _ rfl (fun _ => nofun)
      | dict xs => exact hd _ rfl (fun _ => nofun)
theorem t_not (ha : JT X W a fa) : JT X W (.UnaryOp .Not a pos) (eNot fa) := by
  refine ⟨PT.imp (pt_not ha.pt) ?_⟩
  intro σ H Q ⟨O, m, rf, q⟩
  refine rdt1 (k := fun x => match x with | .bool b => some (.ok (.bool (!b))) | _ => none) rf (fun {c H' C} h1 h2 h3 => ?_) (fun h => ?_) (fun d h => ?_) fun b H1 h1 e1 => ?_
  · rw [show eNot fa m = some (.exc c) from h1] at q
    exact q H' C h2 h3
  · rw [show eNot fa m = none from h] at q
    exact q
  · cases d with
    | bool b => exact absurd rfl (h b)
    | _ => rfl
  · have e : eNot fa m = some (.ok (.bool (!b))) := by unfold eNot; rw [h1]; rfl
    rw [e] at q
    exact q H1 e1
theorem j_one {op : BoolOp} (ha : JE l X W a fa) : JE l X W (.BoolOp op [a] pos) fa := ⟨pe_one ha.pe⟩
theorem j_and {rest : List Expr} (ha : JE l1 X W a fa) (hb : JE l2 X W (.BoolOp .And (b :: rest) pos) fb) : JE l2 X W (.BoolOp .And (a :: b :: rest) pos) (eAnd fa fb) := by
  refine ⟨PE.imp (pe_and ha.pe hb.pe) ?_⟩
  intro σ H Q ⟨O, m, rf, q⟩
  refine ⟨O, m, rf, ?_⟩
  unfold eAnd at q
  cases hf : fa m with
  | none => rw [hf] at q; exact q
  | some z =>
    rw [hf] at q
    cases z with
    | exc c => exact q
    | ok dx =>
      intro H1 x e1 r1
      cases dx with
      | bool b =>
        cases (show Rp X.K O H1 x (.bool b) from r1.rp1 rf.ok)
        refine ⟨b, rfl, ?_⟩
        cases b with
        | false => exact iteF (q H1 _ e1 .of_bl)
        | true =>
          refine iteT ⟨O, m, rf.same e1, ?_⟩
          dsimp only [bnd] at q
          cases hg : fb m with
          | none => rw [hg] at q; exact q
          | some z =>
            rw [hg] at q
            cases z with
            | exc c => exact fun H' C e2 e3 => q H' C (e1.trans e2) e3
            | ok d => exact fun H' v e2 r2 => q H' v (e1.trans e2) (r2.pre e1)
      | none => exact q.elim
      | int i => exact q.elim
      | str x => exact q.elim
      | list xs => exact q.elim
      | tuple xs => exact q.elim
      | dict xs => exact q.elim
theorem j_or {rest : List Expr} (ha : JE l1 X W a fa) (hb : JE l2 X W (.BoolOp .Or (b :: rest) pos) fb) : JE l2 X W (.BoolOp .Or (a :: b :: rest) pos) (eOr fa fb) := by
  refine ⟨PE.imp (pe_or ha.pe hb.pe) ?_⟩
  intro σ H Q ⟨O, m, rf, q⟩
  refine ⟨O, m, rf, ?_⟩
  unfold eOr at q
  cases hf : fa m with
  | none => rw [hf] at q; exact q
  | some z =>
    rw [hf] at q
    cases z with
    | exc c => exact q
    | ok dx =>
      intro H1 x e1 r1
      cases dx with
      | bool b =>
        cases (show Rp X.K O H1 x (.bool b) from r1.rp1 rf.ok)
        refine ⟨b, rfl, ?_⟩
        cases b with
        | true => exact iteT (q H1 _ e1 .of_bl)
        | false =>
          refine iteF ⟨O, m, rf.same e1, ?_⟩
          dsimp only [bnd] at q
          cases hg : fb m with
          | none => rw [hg] at q; exact q
          | some z =>
            rw [hg] at q
            cases z with
            | exc c => exact fun H' C e2 e3 => q H' C (e1.trans e2) e3
            | ok d => exact fun H' v e2 r2 => q H' v (e1.trans e2) (r2.pre e1)
      | none => exact q.elim
      | int i => exact q.elim
      | str x => exact q.elim
      | list xs => exact q.elim
      | tuple xs => exact q.elim
      | dict xs => exact q.elim
/-- and, or as tests -/
structure JW (X : Cx) (W : WX) (e : Expr) (f : E) : Prop where
  pw : PW X e (RdT X W f)
theorem PW.imp {X : Cx} {e : Expr} {t t' : TT} (h : PW X e t) (i : ∀ σ H Q, t' σ H Q → t σ H Q) : PW X e t' := ⟨fun w pins s σ H Q I q => h.run w pins s σ H Q I (i σ H Q q)⟩
theorem t_bool (h : JW X W a fa) : JT X W a fa := ⟨h.pw.pt⟩
theorem w_and1 (ha : JT X W a fa) : JW X W (.BoolOp .And [a] pos) fa := ⟨pw_and1 ha.pt⟩
theorem w_or1 (ha : JT X W a fa) : JW X W (.BoolOp .Or [a] pos) fa := ⟨pw_or1 ha.pt⟩
theorem RdT.same {σ : L2.St} {H H1 : Hp} {Q : Bool → Hp → Prop} {O : List Addr} {m : En} (rf : Ref X O m σ H1) (e1 : Same H H1)
    (q : match fb m with
      | some (.ok (.bool b)) => ∀ H', Same H H' → Q b H'
      | some (.ok _) => False
      | some (.exc c) => ∀ H' C, Same H H' → X.mg c = some (.ref C) → W (.ref C) none σ H'
      | none => False) : RdT X W fb σ H1 Q := by
  refine ⟨O, m, rf, ?_⟩
  cases hg : fb m with
  | none => rw [hg] at q; exact q
  | some z =>
    rw [hg] at q
    cases z with
    | exc c => exact fun H' C e2 e3 => q H' C (e1.trans e2) e3
    | ok d =>
      cases d with
      | bool b => exact fun H' e2 => q H' (e1.trans e2)
      | _ => exact q.elim
theorem RdE.same {σ : L2.St} {H H1 : Hp} {Q : VK} {O : List Addr} {m : En} (rf : Ref X O m σ H1) (e1 : Same H H1)
    (q : match fb m with
      | some (.ok d) => ∀ H' v, Same H H' → Rv l X.K O H H' v d → Q v H'
      | some (.exc c) => ∀ H' C, Same H H' → X.mg c = some (.ref C) → W (.ref C) none σ H'
      | none => False) : RdE l X W fb σ H1 Q := by
  refine ⟨O, m, rf, ?_⟩
  cases hg : fb m with
  | none => rw [hg] at q; exact q
  | some z =>
    rw [hg] at q
    cases z with
    | exc c => exact fun H' C e2 e3 => q H' C (e1.trans e2) e3
    | ok d => exact fun H' v e2 r2 => q H' v (e1.trans e2) (r2.pre e1)
theorem w_and {rest : List Expr} (ha : JT X W a fa) (hb : JW X W (.BoolOp .And (b :: rest) pos) fb) : JW X W (.BoolOp .And (a :: b :: rest) pos) (eAnd fa fb) := by
  refine ⟨PW.imp (pw_and ha.pt hb.pw) ?_⟩
  intro σ H Q ⟨O, m, rf, q⟩
  refine rdt1 (k := fun x => match x with | .bool true => fb m | .bool false => some (.ok (.bool false)) | _ => none) rf (fun {c H' C} h1 h2 h3 => ?_) (fun h => ?_) (fun d h => ?_) fun b H1 h1 e1 => ?_
  · rw [show eAnd fa fb m = some (.exc c) from h1] at q
    exact q H' C h2 h3
  · rw [show eAnd fa fb m = none from h] at q
    exact q
  · cases d with
    | bool b => exact absurd rfl (h b)
    | _ => rfl
  · cases b with
    | false =>
      rw [show eAnd fa fb m = some (.ok (.bool false)) by unfold eAnd; rw [h1]; rfl] at q
      exact iteF (q H1 e1)
    | true =>
      rw [show eAnd fa fb m = fb m by unfold eAnd; rw [h1]; rfl] at q
      exact iteT (RdT.same (rf.same e1) e1 q)
theorem w_or {rest : List Expr} (ha : JT X W a fa) (hb : JW X W (.BoolOp .Or (b :: rest) pos) fb) : JW X W (.BoolOp .Or (a :: b :: rest) pos) (eOr fa fb) := by
  refine ⟨PW.imp (pw_or ha.pt hb.pw) ?_⟩
  intro σ H Q ⟨O, m, rf, q⟩
  refine rdt1 (k := fun x => match x with | .bool false => fb m | .bool true => some (.ok (.bool true)) | _ => none) rf (fun {c H' C} h1 h2 h3 => ?_) (fun h => ?_) (fun d h => ?_) fun b H1 h1 e1 => ?_
  · rw [show eOr fa fb m = some (.exc c) from h1] at q
    exact q H' C h2 h3
  · rw [show eOr fa fb m = none from h] at q
    exact q
  · cases d with
    | bool b => exact absurd rfl (h b)
    | _ => rfl
  · cases b with
    | true =>
      rw [show eOr fa fb m = some (.ok (.bool true)) by unfold eOr; rw [h1]; rfl] at q
      exact iteT (q H1 e1)
    | false =>
      rw [show eOr fa fb m = fb m by unfold eOr; rw [h1]; rfl] at q
      exact iteF (RdT.same (rf.same e1) e1 q)
theorem j_ite (hc : JT X W c fc) (ha : JE l X W a fa) (hb : JE l X W b fb) : JE l X W (.IfExp c a b pos) (eIte fc fa fb) := by
  refine ⟨PE.imp (pe_ifExp hc.pt ha.pe hb.pe) ?_⟩
  intro σ H Q ⟨O, m, rf, q⟩
  refine rdt1 (k := fun x => match x with | .bool true => fa m | .bool false => fb m | _ => none) rf (fun {c H' C} h1 h2 h3 => ?_) (fun h => ?_) (fun d h => ?_) fun b H1 h1 e1 => ?_
  · rw [show eIte fc fa fb m = some (.exc c) from h1] at q
    exact q H' C h2 h3
  · rw [show eIte fc fa fb m = none from h] at q
    exact q
  · cases d with
    | bool b => exact absurd rfl (h b)
    | _ => rfl
  · cases b with
    | true =>
      rw [show eIte fc fa fb m = fa m by unfold eIte; rw [h1]; rfl] at q
      exact iteT (RdE.same (rf.same e1) e1 q)
    | false =>
      rw [show eIte fc fa fb m = fb m by unfold eIte; rw [h1]; rfl] at q
      exact iteF (RdE.same (rf.same e1) e1 q)
/-! ### arguments -/
theorem ja_nil : JA l X W [] elNil := PA.imp pa_nil fun σ H Q ⟨O, m, rf, q⟩ => q H [] (Same.refl H) (by cases l <;> first | exact .nil | exact RpAll.nil)
theorem RvA.same {l : Lv} {K : PySem.W.Frag} {O : List Addr} {H H' : Hp} {vs : List V} {ds : List D} (h : RvA l K O H vs ds) (e : Same H H') : RvA l K O H' vs ds := by
  cases l
  · exact pair_same e h
  · exact RpAll.same h e
  · exact RpAll.same h e
theorem RvA.cons {l : Lv} {K : PySem.W.Frag} {O : List Addr} {H0 H : Hp} {v : V} {d : D} {vs : List V} {ds : List D} (h : Rv l K O H0 H v d) (ok : OwnOk O H0) (t : RvA l K O H vs ds) : RvA l K O H (v :: vs) (d :: ds) := by
  cases l
  · exact Paired.cons h t
  · exact RpAll.cons h t
  · exact RpAll.cons (Rf.rp h ok) t
theorem Rv.same {l : Lv} {K : PySem.W.Frag} {O : List Addr} {H0 H H' : Hp} {v : V} {d : D} (h : Rv l K O H0 H v d) (e : Same H H') : Rv l K O H0 H' v d := by
  cases l
  · exact Rp1.same h e
  · exact Rp.same h e
  · show Rf K O H0 H' v d
    cases d with
    | list ds => obtain ⟨a, xs, r, h0, q, t⟩ := h; exact ⟨a, xs, r, h0, e _ _ q, t.same e⟩
    | dict ds => exact Rp.same h e
    | none => exact Rp.same h e
    | bool b => exact Rp.same h e
    | int i => exact Rp.same h e
    | str x => exact Rp.same h e
    | tuple xs => exact Rp.same h e
theorem ja_cons {es : List Expr} {fr : EL} (ha : JE l X W a fa) (hr : JA l X W es fr) (hs : starEach (a :: es) X.env = (false, eval a X.env) :: starEach es X.env := by rfl) : JA l X W (a :: es) (elCons fa fr) := by
  refine PA.imp (pa_cons ha.pe hr hs) ?_
  intro σ H Q ⟨O, m, rf, q⟩
  refine ⟨O, m, rf, ?_⟩
  unfold elCons at q
  cases hf : fa m with
  | none => rw [hf] at q; exact q
  | some z =>
    rw [hf] at q
    cases z with
    | exc c => exact q
    | ok d =>
      intro H1 x e1 r1
      refine ⟨O, m, rf.same e1, ?_⟩
      dsimp only at q
      cases hg : fr m with
      | none => rw [hg] at q; exact q
      | some z =>
        rw [hg] at q
        cases z with
        | exc c => exact fun H' C e2 e3 => q H' C (e1.trans e2) e3
        | ok ds => exact fun H' vs e2 r2 => q H' (x :: vs) (e1.trans e2) (.cons (r1.same e2) rf.ok r2)
theorem j_tup {es : List Expr} {fr : EL} {k} (h : JA .s X W es fr) : JE l X W (.Tuple es k pos) (eFn (fun ds => if ds.length ≤ 1000 then some (.ok (.tuple ds)) else none) fr) := by
  refine ⟨PE.imp (pe_tup h) ?_⟩
  intro σ H Q ⟨O, m, rf, q⟩
  refine ⟨O, m, rf, ?_⟩
  unfold eFn at q
  cases hf : fr m with
  | none => rw [hf] at q; exact q
  | some z =>
    rw [hf] at q
    cases z with
    | exc c => exact q
    | ok ds =>
      intro H1 vs e1 r1
      dsimp only [bndL] at q
      by_cases hl : ds.length ≤ 1000
      · rw [if_pos hl] at q
        have hn : vs.length ≤ 1000 := by rw [RpAll.length r1]; exact hl
        refine ⟨Nat.le_of_lt (small1000 hn), fun p hp => ?_⟩
        have sm : Same H1 (upd H1 p (.tup vs)) := fun b o e => by rw [upd_ne (ne_of_none e hp)]; exact e
        exact q _ _ (e1.trans sm) (Rv.scal (.tup upd_same (RpAll.same r1 sm)) ⟨fun _ => nofun, fun _ => nofun⟩)
      · rw [if_neg hl] at q
        exact q.elim
theorem j_lst {es : List Expr} {fr : EL} (h : JA .s X W es fr) : JE .f X W (.List es pos) (eFn (fun ds => if ds.length ≤ 1000 then some (.ok (.list ds)) else none) fr) := by
  refine ⟨PE.imp (pe_lst h) ?_⟩
  intro σ H Q ⟨O, m, rf, q⟩
  refine ⟨O, m, rf, ?_⟩
  unfold eFn at q
  cases hf : fr m with
  | none => rw [hf] at q; exact q
  | some z =>
    rw [hf] at q
    cases z with
    | exc c => exact q
    | ok ds =>
      intro H1 vs e1 r1
      dsimp only [bndL] at q
      by_cases hl : ds.length ≤ 1000
      · rw [if_pos hl] at q
        have hn : vs.length ≤ 1000 := by rw [RpAll.length r1]; exact hl
        refine ⟨Nat.le_of_lt (small1000 hn), fun p hp => ?_⟩
        have sm : Same H1 (upd H1 p (.lst vs)) := fun b o e => by rw [upd_ne (ne_of_none e hp)]; exact e
        exact q _ _ (e1.trans sm) ⟨p, vs, rfl, e1.free hp, upd_same, rp_new r1 (rf.ok.same e1) hp⟩
      · rw [if_neg hl] at q
        exact q.elim
end
end MP

set_option Elab.async false
set_option linter.all false
set_option maxRecDepth 100000
namespace MP
open PySem PySem.Spec PyProof.Rows L2

/-! ### data of a small depth -/
def dep : Nat → D → Bool
  | 0, .none => true
  | 0, .bool _ => true
  | 0, .int _ => true
  | 0, .str x => PyData.strOk x
  | 0, _ => false
  | n + 1, .none => true
  | n + 1, .bool _ => true
  | n + 1, .int _ => true
  | n + 1, .str x => PyData.strOk x
  | n + 1, .list xs => xs.all (dep n)
  | n + 1, .tuple xs => xs.all (dep n)
  | n + 1, .dict _ => false
theorem dep_all_depth {n : Nat} (ih : ∀ d, dep n d = true → flat d = true ∧ d.canLay0 = true ∧ d.depth ≤ n) : ∀ xs : List D, xs.all (dep n) = true → flatL xs = true ∧ PyData.canLayAll0 xs = true ∧ PyData.depthAll xs ≤ n
  | [], _ => ⟨by simp [flatL], by simp [PyData.canLayAll0], by simp [PyData.depthAll]⟩
  | x :: xs, h => by
    rw [List.all_cons, Bool.and_eq_true] at h
    obtain ⟨a1, a2, a3⟩ := ih x h.1
    obtain ⟨b1, b2, b3⟩ := dep_all_depth ih xs h.2
    refine ⟨by simp [flatL, a1, b1], by simp [PyData.canLayAll0, a2, b2], ?_⟩
    simp only [PyData.depthAll]
    omega
theorem dep_ok : ∀ (n : Nat) (d : D), dep n d = true → flat d = true ∧ d.canLay0 = true ∧ d.depth ≤ n
  | 0, .none, _ => ⟨by simp [flat], by simp [PyData.canLay0], by simp [PyData.depth]⟩
  | 0, .bool _, _ => ⟨by simp [flat], by simp [PyData.canLay0], by simp [PyData.depth]⟩
  | 0, .int _, _ => ⟨by simp [flat], by simp [PyData.canLay0], by simp [PyData.depth]⟩
  | 0, .str _, h => ⟨by simp [flat], by simpa [dep, PyData.canLay0] using h, by simp [PyData.depth]⟩
  | 0, .list _, h => by simp [dep] at h
  | 0, .tuple _, h => by simp [dep] at h
  | 0, .dict _, h => by simp [dep] at h
  | n + 1, .none, _ => ⟨by simp [flat], by simp [PyData.canLay0], by simp [PyData.depth]⟩
  | n + 1, .bool _, _ => ⟨by simp [flat], by simp [PyData.canLay0], by simp [PyData.depth]⟩
  | n + 1, .int _, _ => ⟨by simp [flat], by simp [PyData.canLay0], by simp [PyData.depth]⟩
  | n + 1, .str _, h => ⟨by simp [flat], by simpa [dep, PyData.canLay0] using h, by simp [PyData.depth]⟩
  | n + 1, .list xs, h => by
    obtain ⟨b1, b2, b3⟩ := dep_all_depth (dep_ok n) xs (by simpa [dep] using h)
    refine ⟨by simpa [flat] using b1, by simpa [PyData.canLay0] using b2, ?_⟩
    simp only [PyData.depth]
    omega
  | n + 1, .tuple xs, h => by
    obtain ⟨b1, b2, b3⟩ := dep_all_depth (dep_ok n) xs (by simpa [dep] using h)
    refine ⟨by simpa [flat] using b1, by simpa [PyData.canLay0] using b2, ?_⟩
    simp only [PyData.depth]
    omega
  | n + 1, .dict _, h => by simp [dep] at h
/-- small enough to be compared -/
def small (d : D) : Bool := dep 8 d
theorem small_dp {K : PySem.W.Frag} {O : List Addr} {H : Hp} {v : V} {d : D} (h : Rp1 K O H v d) (s : small d = true) : Dp K H v d ∧ SeqAt.shaped d = true := by
  obtain ⟨h1, h2, h3⟩ := dep_ok 8 d s
  refine ⟨Rp1.dp h h1, ?_⟩
  show (d.canLay0 && decide (d.depth ≤ 64)) = true
  rw [h2, decide_eq_true (show d.depth ≤ 64 by omega)]
  rfl

/-! ### the operations -/
def line : Nat := 100000
theorem line_le {n : Nat} (h : n ≤ line) : n ≤ sizeLine := Nat.le_trans h (by decide)
theorem line_lt {n : Nat} (h : n ≤ line) : n < sizeLine := Nat.lt_of_le_of_lt h (by decide)
def gAdd : D → D → Option D
  | .int i, .int j => some (.int (i + j))
  | .str x, .str y => if x.length + y.length ≤ line then some (.str (x ++ y)) else none
  | .list xs, .list ys => if xs.length + ys.length ≤ line then some (.list (xs ++ ys)) else none
  | .tuple xs, .tuple ys => if xs.length + ys.length ≤ line then some (.tuple (xs ++ ys)) else none
  | _, _ => none
def gSub : D → D → Option D
  | .int i, .int j => some (.int (i - j))
  | _, _ => none
def big : Int := 18446744073709551616
def gMul : D → D → Option D
  | .int i, .int j => if (-big < i ∧ i < big) ∨ (-big < j ∧ j < big) then some (.int (i * j)) else none
  | _, _ => none
def gRep : D → D → Option D
  | .list xs, .int k => if 0 ≤ k ∧ k ≤ 1000 ∧ xs.length ≤ 10 then some (.list (List.replicate k.toNat xs).flatten) else none
  | _, _ => none
def gFdiv : D → D → Option D
  | .int i, .int j => if 0 < j ∧ j < big then some (.int (i / j)) else none
  | _, _ => none
def gMod : D → D → Option D
  | .int i, .int j => if 0 < j then some (.int (i % j)) else none
  | _, _ => none
def gPow : D → D → Option D
  | .int i, .int j => if 0 ≤ j ∧ j ≤ 100 ∧ i.natAbs < 1000 then some (.int (i ^ j.toNat)) else none
  | _, _ => none
def gNeg : D → Option D
  | .int i => some (.int (-i))
  | _ => none
def gLt : D → D → Option D
  | .int i, .int j => some (.bool (decide (i < j)))
  | _, _ => none
def gLe : D → D → Option D
  | .int i, .int j => some (.bool (decide (i ≤ j)))
  | _, _ => none
def gGt : D → D → Option D
  | .int i, .int j => some (.bool (decide (j < i)))
  | _, _ => none
def gGe : D → D → Option D
  | .int i, .int j => some (.bool (decide (j ≤ i)))
  | _, _ => none
def gEq (d e : D) : Option D := if small d && small e then some (.bool (PyData.eqv d e)) else none
def gNe (d e : D) : Option D := if small d && small e then some (.bool (!PyData.eqv d e)) else none
def gInL (d : D) : D → Option D
  | .list ds => if small d && small (.list ds) then some (.bool (ds.any fun z => PyData.eqv z d)) else none
  | _ => none
def gNotInL (d : D) : D → Option D
  | .list ds => if small d && small (.list ds) then some (.bool (!ds.any fun z => PyData.eqv z d)) else none
  | _ => none
def isNoneD : D → Bool
  | .none => true
  | _ => false
def gIsN (d : D) : D → Option D
  | .none => some (.bool (isNoneD d))
  | _ => none
def gIsNotN (d : D) : D → Option D
  | .none => some (.bool (!isNoneD d))
  | _ => none
def gIsB : D → D → Option D
  | .bool a, .bool b => some (.bool (a == b))
  | _, _ => none
def gIsNotB : D → D → Option D
  | .bool a, .bool b => some (.bool (!(a == b)))
  | _, _ => none
def gIdx : D → D → Option D
  | .list xs, .int i => atI xs i
  | .tuple xs, .int i => atI xs i
  | .str z, .int i => if z.length ≤ line then (atI z.cps.toList i).map fun c => .str ⟨#[c]⟩ else none
  | _, _ => none
def cut {α : Type} (xs : List α) (lo hi : Option Int) : List α := (xs.drop (HT.sIx xs.length 0 lo)).take (HT.sIx xs.length xs.length hi - HT.sIx xs.length 0 lo)

section
variable {X : Cx} {K : PySem.W.Frag}
theorem rp1_int {O : List Addr} {H : Hp} {x : V} {i : Int} (h : Rp1 K O H x (.int i)) : x = .int i := by cases (show Rp K O H x (.int i) from h); rfl
theorem rp1_str {O : List Addr} {H : Hp} {x : V} {i : Str} (h : Rp1 K O H x (.str i)) : x = .str i := by cases (show Rp K O H x (.str i) from h); rfl
theorem rp1_bl {O : List Addr} {H : Hp} {x : V} {i : Bool} (h : Rp1 K O H x (.bool i)) : x = .bl i := by cases (show Rp K O H x (.bool i) from h); rfl
theorem rp1_non {O : List Addr} {H : Hp} {x : V} (h : Rp1 K O H x .none) : x = .non := by cases (show Rp K O H x .none from h); rfl
theorem rp1_tup {O : List Addr} {H : Hp} {x : V} {ds : List D} (h : Rp1 K O H x (.tuple ds)) : ∃ a xs, x = .ref a ∧ SqT K H a xs ∧ RpAll K O H xs ds := by
  cases (show Rp K O H x (.tuple ds) from h) with | tup a b => exact ⟨_, _, rfl, .inl (.inl a), b⟩
theorem rp1_tupP {O : List Addr} {H : Hp} {x : V} {ds : List D} (h : Rp1 K O H x (.tuple ds)) : ∃ a xs, x = .ref a ∧ H a = some (.tup xs) ∧ RpAll K O H xs ds := by
  cases (show Rp K O H x (.tuple ds) from h) with | tup a b => exact ⟨_, _, rfl, a, b⟩
theorem same_upd {H : Hp} {p : Addr} {o : HO} (h : H p = none) : Same H (upd H p o) := fun b x e => by
  rw [upd_ne (ne_of_none e h)]
  exact e
/-- list + list, whatever list it is that is read -/
def rCatL (K : PySem.W.Frag) : R2 := fun x y H Q => ∃ a b xs ys, x = .ref a ∧ y = .ref b ∧ SqL K H a xs ∧ SqL K H b ys ∧ xs.length + ys.length ≤ sizeLine ∧ ∀ p, H p = none → Q (.ref p) (upd H p (.lst (xs ++ ys)))
theorem op_catL : OpR X (binaryOp .Add) (rCatL X.K) := by
  intro pins s σ H x y v u Q I rx ry h
  obtain ⟨l, b, xs, zs, rfl, rfl, hH, hB, hz, q⟩ := h
  cases rx
  cases ry
  obtain ⟨its, r, ⟨⟨cls, dd, data, sl⟩, n, ho, hc, hdn, hd⟩, _⟩ := I.list hH
  obtain ⟨its2, r2, ⟨⟨cls2, dd2, data2, sl2⟩, n2, ho2, hc2, hdn2, hd2⟩, _⟩ := I.list hB
  simp only at hc hd hc2 hd2 hdn hdn2
  subst hc hd hc2 hd2
  have e : its.toArray ++ its2.toArray = (its ++ its2).toArray := by simp
  have l1 := r.length
  have l2 := r2.length
  refine concat_meets ⟨_, ho, rfl⟩ ⟨_, ho2, rfl⟩ noFill_list_add seq_list_add PySem.F.slot_list_add PySem.F.entry_list_add (PySem.F.args_list_add_2 _ _) (list_addW l b its.toArray its2.toArray n n2 dd dd2 sl sl2 (by simp; omega)) ⟨ho, ho2, ?_⟩
  rw [e]
  exact ⟨.ref _, _, I.lnew (t' := s.toks) (r.append r2) (by rw [List.length_append]; omega), rfl, q _ I.fresh⟩
abbrev rAddAll (K : PySem.W.Frag) : R2 := fun x y H Q => rI0 (fun i j => .int (i + j)) x y H Q ∨ (∃ i j, x = .str i ∧ y = .str j ∧ i.length + j.length ≤ sizeLine ∧ Q (.str (i ++ j)) H) ∨ rCatL K x y H Q ∨ rCatA K x y H Q
theorem op_addAll : OpR X (binaryOp .Add) (rAddAll X.K) := OpR.or op_add (OpR.or op_add_str (OpR.or op_catL op_catA))
theorem od_add : OpD K .f (rAddAll K) gAdd := by
  intro O H x y dx dy d Q ok rx ry hg q
  unfold gAdd at hg
  split at hg
  · cases hg
    exact .inl ⟨_, _, rp1_int rx, rp1_int ry, q H _ (Same.refl H) .of_int⟩
  · split at hg
    · rename_i hl
      cases hg
      exact .inr (.inl ⟨_, _, rp1_str rx, rp1_str ry, line_le hl, q H _ (Same.refl H) .of_str⟩)
    · cases hg
  · split at hg
    · rename_i hl
      cases hg
      obtain ⟨a, xs, rfl, h1, h2⟩ := rx
      obtain ⟨b, ys, rfl, h3, h4⟩ := ry
      refine .inr (.inr (.inl ⟨a, b, xs, ys, rfl, rfl, h1, h3, by rw [h2.length, h4.length]; exact line_le hl, fun p hp => ?_⟩))
      exact q _ _ (same_upd hp) ⟨p, _, rfl, hp, upd_same, rp_new (h2.app h4) ok hp⟩
    · cases hg
  · split at hg
    · rename_i hl
      cases hg
      obtain ⟨a, xs, rfl, h1, h2⟩ := rp1_tupP rx
      obtain ⟨b, ys, rfl, h3, h4⟩ := rp1_tupP ry
      refine .inr (.inr (.inr ⟨a, b, xs, ys, rfl, rfl, .inl (.inl h1), .inl (.inl h3), by rw [h2.length, h4.length]; exact line_le hl, fun e => ?_, fun _ e => ?_, fun _ _ p hp => ?_⟩))
      · subst e
        cases h2
        exact q H _ (Same.refl H) (Rp.tup h3 h4)
      · subst e
        cases h4
        rw [List.append_nil] at q
        exact q H _ (Same.refl H) (Rp.tup h1 h2)
      · exact q _ _ (same_upd hp) (Rp.tup upd_same ((h2.app h4).same (same_upd hp)))
    · cases hg
  · cases hg
theorem od_int {r : R2} {g : D → D → Option D} {h : Int → Int → Int} {C : Int → Int → Prop} (hr : ∀ x y H Q, (∃ i j, x = V.int i ∧ y = V.int j ∧ C i j ∧ Q (V.int (h i j)) H) → r x y H Q)
    (hg : ∀ dx dy d, g dx dy = some d → ∃ i j, dx = .int i ∧ dy = .int j ∧ C i j ∧ d = .int (h i j)) : OpD K .f r g := by
  intro O H x y dx dy d Q ok rx ry e q
  obtain ⟨i, j, rfl, rfl, hc, rfl⟩ := hg dx dy d e
  exact hr x y H Q ⟨i, j, rp1_int rx, rp1_int ry, hc, q H _ (Same.refl H) .of_int⟩
theorem od_sub : OpD K .f (rI0 fun i j => .int (i - j)) gSub := od_int (C := fun _ _ => True) (fun x y H Q ⟨i, j, a, b, _, d⟩ => ⟨i, j, a, b, d⟩) fun dx dy d h => by
  unfold gSub at h
  split at h
  · cases h; exact ⟨_, _, rfl, rfl, trivial, rfl⟩
  · cases h
theorem od_mul : OpD K .f (rI CMul fun i j => .int (i * j)) gMul := od_int (fun x y H Q h => h) fun dx dy d h => by
  unfold gMul at h
  split at h
  · split at h
    · rename_i hc
      cases h
      exact ⟨_, _, rfl, rfl, hc, rfl⟩
    · cases h
  · cases h
theorem od_fdiv : OpD K .f (rI CDivW fun i j => .int (i / j)) gFdiv := od_int (fun x y H Q h => h) fun dx dy d h => by
  unfold gFdiv at h
  split at h
  · split at h
    · rename_i i j hc
      cases h
      refine ⟨_, _, rfl, rfl, ?_, rfl⟩
      have hb : j.natAbs < 2 ^ 64 := by
        have : j < 18446744073709551616 := hc.2
        omega
      exact wide_div (b := 64) hc.1 hb (by decide) (by decide)
    · cases h
  · cases h
theorem od_mod : OpD K .f (rI (fun _ j => 0 < j) fun i j => .int (i % j)) gMod := od_int (fun x y H Q h => h) fun dx dy d h => by
  unfold gMod at h
  split at h
  · split at h
    · rename_i hc
      cases h
      exact ⟨_, _, rfl, rfl, hc, rfl⟩
    · cases h
  · cases h
theorem od_pow : OpD K .f (rI CPow fun i j => .int (i ^ j.toNat)) gPow := od_int (fun x y H Q h => h) fun dx dy d h => by
  unfold gPow at h
  split at h
  · split at h
    · rename_i hc
      cases h
      exact ⟨_, _, rfl, rfl, ⟨hc.1, by omega, by omega⟩, rfl⟩
    · cases h
  · cases h
theorem od_neg : OpD1 K .f (rU fun i => .int (-i)) gNeg := by
  intro O H x dx d Q ok rx hg q
  unfold gNeg at hg
  split at hg
  · cases hg; exact ⟨_, rp1_int rx, q H _ (Same.refl H) .of_int⟩
  · cases hg
theorem od_cmpI {r : R2} {g : D → D → Option D} {h : Int → Int → Bool} (hr : ∀ x y H Q, (∃ i j, x = V.int i ∧ y = V.int j ∧ Q (V.bl (h i j)) H) → r x y H Q)
    (hg : ∀ dx dy d, g dx dy = some d → ∃ i j, dx = .int i ∧ dy = .int j ∧ d = .bool (h i j)) : OpD K .s r g := by
  intro O H x y dx dy d Q ok rx ry e q
  obtain ⟨i, j, rfl, rfl, rfl⟩ := hg dx dy d e
  exact hr x y H Q ⟨i, j, rp1_int rx, rp1_int ry, q H _ (Same.refl H) .of_bl⟩
theorem od_lt : OpD K .s (rI0 fun i j => .bl (decide (i < j))) gLt := od_cmpI (fun x y H Q h => h) fun dx dy d h => by
  unfold gLt at h
  split at h
  · cases h; exact ⟨_, _, rfl, rfl, rfl⟩
  · cases h
theorem od_le : OpD K .s (rI0 fun i j => .bl (decide (i ≤ j))) gLe := od_cmpI (fun x y H Q h => h) fun dx dy d h => by
  unfold gLe at h
  split at h
  · cases h; exact ⟨_, _, rfl, rfl, rfl⟩
  · cases h
theorem od_gt : OpD K .s (rI0 fun i j => .bl (decide (j < i))) gGt := od_cmpI (h := fun i j => decide (j < i)) (fun x y H Q h => h) fun dx dy d h => by
  unfold gGt at h
  split at h
  · cases h; exact ⟨_, _, rfl, rfl, rfl⟩
  · cases h
theorem od_ge : OpD K .s (rI0 fun i j => .bl (decide (j ≤ i))) gGe := od_cmpI (h := fun i j => decide (j ≤ i)) (fun x y H Q h => h) fun dx dy d h => by
  unfold gGe at h
  split at h
  · cases h; exact ⟨_, _, rfl, rfl, rfl⟩
  · cases h
theorem od_eq : OpD K .s (rEqD K) gEq := by
  intro O H x y dx dy d Q ok rx ry hg q
  unfold gEq at hg
  split at hg
  · rename_i hs
    rw [Bool.and_eq_true] at hs
    cases hg
    obtain ⟨a1, a2⟩ := small_dp rx hs.1
    obtain ⟨b1, b2⟩ := small_dp ry hs.2
    exact ⟨dx, dy, a1, b1, a2, b2, q H _ (Same.refl H) .of_bl⟩
  · cases hg
theorem od_ne : OpD K .s (rNeD K) gNe := by
  intro O H x y dx dy d Q ok rx ry hg q
  unfold gNe at hg
  split at hg
  · rename_i hs
    rw [Bool.and_eq_true] at hs
    cases hg
    obtain ⟨a1, a2⟩ := small_dp rx hs.1
    obtain ⟨b1, b2⟩ := small_dp ry hs.2
    exact ⟨dx, dy, a1, b1, a2, b2, q H _ (Same.refl H) .of_bl⟩
  · cases hg
theorem od_inL : OpD K .s (rInD K) gInL := by
  intro O H x y dx dy d Q ok rx ry hg q
  unfold gInL at hg
  split at hg
  · split at hg
    · rename_i hs
      rw [Bool.and_eq_true] at hs
      cases hg
      obtain ⟨a1, a2⟩ := small_dp rx hs.1
      obtain ⟨b1, b2⟩ := small_dp ry hs.2
      exact ⟨_, _, a1, b1, a2, b2, q H _ (Same.refl H) .of_bl⟩
    · cases hg
  · cases hg
theorem od_notInL : OpD K .s (rNotInD K) gNotInL := by
  intro O H x y dx dy d Q ok rx ry hg q
  unfold gNotInL at hg
  split at hg
  · split at hg
    · rename_i hs
      rw [Bool.and_eq_true] at hs
      cases hg
      obtain ⟨a1, a2⟩ := small_dp rx hs.1
      obtain ⟨b1, b2⟩ := small_dp ry hs.2
      exact ⟨_, _, a1, b1, a2, b2, q H _ (Same.refl H) .of_bl⟩
    · cases hg
  · cases hg
theorem rp1_isN {O : List Addr} {H : Hp} {x : V} {d : D} (h : Rp1 K O H x d) : decide (x = .non) = isNoneD d := by
  cases d with
  | none => rw [rp1_non h]; rfl
  | bool b => rw [rp1_bl h]; rfl
  | int b => rw [rp1_int h]; rfl
  | str b => rw [rp1_str h]; rfl
  | tuple xs => obtain ⟨a, ys, rfl, _⟩ := rp1_tup h; rfl
  | list xs => obtain ⟨a, ys, rfl, _⟩ := h; rfl
  | dict xs => cases (show Rp K O H x (.dict xs) from h) <;> rfl
theorem od_isN : OpD K .s (fun x y H Q => y = .non ∧ Q (.bl (decide (x = .non))) H) gIsN := by
  intro O H x y dx dy d Q ok rx ry hg q
  unfold gIsN at hg
  split at hg
  · cases hg
    refine ⟨rp1_non ry, ?_⟩
    rw [rp1_isN rx]
    exact q H _ (Same.refl H) .of_bl
  · cases hg
theorem od_isNotN : OpD K .s (fun x y H Q => y = .non ∧ Q (.bl (!decide (x = .non))) H) gIsNotN := by
  intro O H x y dx dy d Q ok rx ry hg q
  unfold gIsNotN at hg
  split at hg
  · cases hg
    refine ⟨rp1_non ry, ?_⟩
    rw [rp1_isN rx]
    exact q H _ (Same.refl H) .of_bl
  · cases hg
theorem dec_beq (a b : Bool) : decide (a = b) = (a == b) := by cases a <;> cases b <;> rfl
theorem od_isB : OpD K .s rIsB gIsB := by
  intro O H x y dx dy d Q ok rx ry hg q
  unfold gIsB at hg
  split at hg
  · cases hg
    refine ⟨_, _, rp1_bl rx, rp1_bl ry, ?_⟩
    rw [dec_beq]
    exact q H _ (Same.refl H) .of_bl
  · cases hg
theorem od_isNotB : OpD K .s rNotB gIsNotB := by
  intro O H x y dx dy d Q ok rx ry hg q
  unfold gIsNotB at hg
  split at hg
  · cases hg
    refine ⟨_, _, rp1_bl rx, rp1_bl ry, ?_⟩
    rw [dec_beq]
    exact q H _ (Same.refl H) .of_bl
  · cases hg
theorem atI_rp {O : List Addr} {H : Hp} {xs : List V} {ds : List D} {i : Int} {d : D} (r : RpAll K O H xs ds) (h : atI ds i = some d) : ∃ v, atI xs i = some v ∧ Rp K O H v d := by
  unfold atI at h ⊢
  rw [r.length]
  cases e : ixN ds.length i with
  | none => rw [e] at h; cases h
  | some j =>
    rw [e] at h
    exact r.get h
theorem od_idx : OpD K .s (rIx K) gIdx := by
  intro O H x y dx dy d Q ok rx ry hg q
  unfold gIdx at hg
  split at hg
  · obtain ⟨a, xs, rfl, h1, h2⟩ := rx
    obtain ⟨v, e1, e2⟩ := atI_rp h2 hg
    exact .inl ⟨a, xs, _, v, rfl, rp1_int ry, h1, e1, q H _ (Same.refl H) e2⟩
  · obtain ⟨a, xs, rfl, h1, h2⟩ := rp1_tup rx
    obtain ⟨v, e1, e2⟩ := atI_rp h2 hg
    exact .inr (.inl ⟨a, xs, _, v, rfl, rp1_int ry, h1, e1, q H _ (Same.refl H) e2⟩)
  · split at hg
    · rename_i z i hl
      cases e : atI z.cps.toList i with
      | none => rw [e] at hg; cases hg
      | some c =>
        rw [e] at hg
        cases hg
        exact .inr (.inr ⟨z, i, c, rp1_str rx, rp1_int ry, line_le hl, e, q H _ (Same.refl H) .of_str⟩)
    · cases hg
  · cases hg
end
section
variable {X : Cx} {W : WX} {l l1 l2 l3 : Lv} {a b c : Expr} {fa fb fc : E} {pos : Pos}
theorem j_lv (h : JE .f X W a fa) : JE l X W a fa := by
  cases l
  · exact h.weak
  · exact h.strong
  · exact h
theorem j_add (ha : JE l1 X W a fa) (hb : JE l2 X W b fb) : JE l X W (.BinOp a .Add b pos) (eOp2 gAdd fa fb) := j_lv (j_bin op_addAll od_add ha hb)
theorem j_sub (ha : JE l1 X W a fa) (hb : JE l2 X W b fb) : JE l X W (.BinOp a .Sub b pos) (eOp2 gSub fa fb) := j_lv (j_bin op_sub od_sub ha hb)
theorem j_mul (ha : JE l1 X W a fa) (hb : JE l2 X W b fb) : JE l X W (.BinOp a .Mult b pos) (eOp2 gMul fa fb) := j_lv (j_bin op_mul od_mul ha hb)
theorem j_fdiv (ha : JE l1 X W a fa) (hb : JE l2 X W b fb) : JE l X W (.BinOp a .FloorDiv b pos) (eOp2 gFdiv fa fb) := j_lv (j_bin op_fdivW od_fdiv ha hb)
theorem j_mod (ha : JE l1 X W a fa) (hb : JE l2 X W b fb) : JE l X W (.BinOp a .Mod b pos) (eOp2 gMod fa fb) := j_lv (j_bin op_mod od_mod ha hb)
theorem j_pow (ha : JE l1 X W a fa) (hb : JE l2 X W b fb) : JE l X W (.BinOp a .Pow b pos) (eOp2 gPow fa fb) := j_lv (j_bin op_pow od_pow ha hb)
theorem j_neg (ha : JE l1 X W a fa) : JE l X W (.UnaryOp .USub a pos) (eOp1 gNeg fa) := j_lv (j_un un_neg od_neg ha)
theorem j_idx (ha : JE l1 X W a fa) (hb : JE l2 X W b fb) (hs : PlainIx b) : JE .s X W (.Subscript a b pos) (eOp2 gIdx fa fb) :=
  ⟨PE.imp (pe_ix ix_seq ha.pe hb.pe hs) fun _ _ _ q => op2_core od_idx q⟩
theorem rpAll_flat {K : PySem.W.Frag} {O : List Addr} {H : Hp} {xs : List V} {ds : List D} (h : RpAll K O H xs ds) : ∀ n : Nat, RpAll K O H (List.replicate n xs).flatten (List.replicate n ds).flatten
  | 0 => .nil
  | n + 1 => by
    rw [List.replicate_succ, List.replicate_succ, List.flatten_cons, List.flatten_cons]
    exact h.app (rpAll_flat h n)
theorem j_rep (ha : JE .f X W a fa) (hb : JE l2 X W b fb) : JE l X W (.BinOp a .Mult b pos) (eOp2 gRep fa fb) := by
  refine j_lv ⟨PE.imp (pe_op op_rep ha.pe hb.pe) ?_⟩
  intro σ H Q ⟨O, m, rf, q⟩
  refine rd2 (k := fun x y => ret (gRep x y)) rf (fun {c H' C} h1 h2 h3 => ?_) (fun h => ?_) fun dx dy H1 H2 x y h1 h2 e1 e2 r1 r2 => ?_
  · rw [show eOp2 gRep fa fb m = some (.exc c) from h1] at q
    exact q H' C h2 h3
  · rw [show eOp2 gRep fa fb m = none from h] at q
    exact q
  · have hr : eOp2 gRep fa fb m = ret (gRep dx dy) := by unfold eOp2; rw [h1, h2]; rfl
    rw [hr] at q
    cases hgd : gRep dx dy with
    | none => rw [hgd] at q; exact q.elim
    | some d =>
      rw [hgd] at q
      unfold gRep at hgd
      split at hgd
      · rename_i xs k
        split at hgd
        · rename_i hc
          cases hgd
          obtain ⟨p, zs, rfl, hp0, hp, hz⟩ := r1
          have hl := hz.length
          refine ⟨p, k, zs, rfl, rp1_int (r2.rp1 (rf.ok.same e1)), e2 _ _ hp, by omega, by omega, ?_, fun p2 hp2 => ?_⟩
          · have h1 : zs.length * k.toNat ≤ 10 * 1000 := Nat.mul_le_mul (by omega) (by omega)
            exact Nat.le_trans h1 (by decide)
          · exact q _ _ ((e1.trans e2).trans (same_upd hp2)) ⟨p2, _, rfl, (e1.trans e2).free hp2, upd_same, rp_new (((rpAll_flat hz _).same e2).sub fun b hb => List.mem_cons_of_mem _ hb) ((rf.ok.same e1).same e2) hp2⟩
        · cases hgd
      · cases hgd
/-- the comparisons, as one relation: operator, function on data -/
structure CmpK (X : Cx) (op : CmpOp) (g : D → D → Option D) : Prop where
  ex : ∃ r, OpR X (compareOp op) r ∧ OpD X.K .s r g
theorem c_lt : CmpK X .Lt gLt := ⟨_, op_lt, od_lt⟩
theorem c_le : CmpK X .LtE gLe := ⟨_, op_le, od_le⟩
theorem c_gt : CmpK X .Gt gGt := ⟨_, op_gt, od_gt⟩
theorem c_ge : CmpK X .GtE gGe := ⟨_, op_ge, od_ge⟩
theorem c_eq (hu : X.A.units + 65 < cLine) : CmpK X .Eq gEq := ⟨_, op_eqD (by omega), od_eq⟩
theorem c_ne (hu : X.A.units + 65 < cLine) : CmpK X .NotEq gNe := ⟨_, op_neD (by omega), od_ne⟩
theorem c_in (hu : X.A.units + 65 < cLine) : CmpK X .In gInL := ⟨_, op_inD hu, od_inL⟩
theorem c_notin (hu : X.A.units + 65 < cLine) : CmpK X .NotIn gNotInL := ⟨_, op_notInD hu, od_notInL⟩
theorem c_isN : CmpK X .Is gIsN := ⟨_, op_isN, od_isN⟩
theorem c_isNotN : CmpK X .IsNot gIsNotN := ⟨_, op_notN, od_isNotN⟩
theorem c_isB : CmpK X .Is gIsB := ⟨_, op_isBl, od_isB⟩
theorem c_isNotB : CmpK X .IsNot gIsNotB := ⟨_, op_notBl, od_isNotB⟩
theorem j_cmpK {op : CmpOp} {g : D → D → Option D} (k : CmpK X op g) (ha : JE l1 X W a fa) (hb : JE l2 X W b fb) (hm : behindInMarks op b = false) : JE .s X W (.Compare a [op] [b] pos) (eOp2 g fa fb) := by
  obtain ⟨r, h1, h2⟩ := k.ex
  exact j_cmp h1 h2 ha hb hm
theorem t_cmpK {op : CmpOp} {g : D → D → Option D} (k : CmpK X op g) (ha : JE l1 X W a fa) (hb : JE l2 X W b fb) (hm : behindInMarks op b = false) : JT X W (.Compare a [op] [b] pos) (eOp2 g fa fb) := by
  obtain ⟨r, h1, h2⟩ := k.ex
  exact t_cmp h1 h2 ha hb hm
end
end MP

set_option Elab.async false
set_option linter.all false
set_option maxRecDepth 100000
namespace MP
open PySem PySem.Spec PyProof.Rows L2

/-! ### a def of the program, by a function on data -/
/-- the promise: with arguments of such data (off the lists that are the callers' own) the def gives such data, or raises -/
def spD (K : PySem.W.Frag) (mg : Str → Option Value) (g : List D → Option Res) : Sp := fun vs H Q E => ∃ O ds, OwnOk O H ∧ RpAll K O H vs ds ∧ match g ds with
  | some (.ok d) => ∀ H' v, Same H H' → Rp K O H' v d → Q v H'
  | some (.exc c) => ∀ H' C, Same H H' → mg c = some (.ref C) → E (.ref C) none H'
  | none => False
/-- what the program's text brings for a def: where it stands, that it may be called, that it keeps its promise -/
structure Df (P : Program) (w : World) (K : PySem.W.Frag) (mg : Str → Option Value) (base : Heap) (k : Nat) (x : Str) (g : List D → Option Res) : Prop where
  ex : ∃ f fd ps, mg x = some (.ref f) ∧ PySem.W.keepIn K (.ref f) = true ∧ Binds K fd ps [] ∧ FnOk P w K mg base (L2.CX P w) k f fd ps (spD K mg g)
theorem Df.mono {P : Program} {w : World} {K : PySem.W.Frag} {mg : Str → Option Value} {base : Heap} {j k : Nat} {x : Str} {g : List D → Option Res} (d : Df P w K mg base j x g) (h : j ≤ k) : Df P w K mg base k x g := by
  obtain ⟨f, fd, ps, h1, h2, h3, h4⟩ := d.ex
  exact ⟨f, fd, ps, h1, h2, h3, h4.mono h⟩
section
variable {X : Cx} {W : WX} {l l1 l2 l3 : Lv} {a b c : Expr} {fa fb fc : E} {pos p : Pos} {es : List Expr} {fe : EL} {x : Str} {k n : Nat} {g : List D → Option Res}
/-- arguments, then a function on data -/
theorem fn_core {σ : L2.St} {H : Hp} {Q : VK} {G : List D → Option Res} {P : List V → Hp → Prop} (q : RdE l X W (eFn G fe) σ H Q)
    (step : ∀ O m ds H1 vs, Ref X O m σ H → Same H H1 → RvA l1 X.K O H1 vs ds → (match G ds with
      | some (.ok d) => ∀ H' v, Same H1 H' → Rv l X.K O H1 H' v d → Q v H'
      | some (.exc c) => ∀ H' C, Same H1 H' → X.mg c = some (.ref C) → W (.ref C) none σ H'
      | none => False) → P vs H1) : RdA l1 X W fe σ H P := by
  obtain ⟨O, m, rf, q⟩ := q
  refine ⟨O, m, rf, ?_⟩
  unfold eFn at q
  cases hf : fe m with
  | none => rw [hf] at q; exact q
  | some z =>
    rw [hf] at q
    cases z with
    | exc c => exact q
    | ok ds =>
      intro H1 vs e1 r1
      dsimp only [bndL] at q
      refine step O m ds H1 vs rf e1 r1 ?_
      cases hg : G ds with
      | none => rw [hg] at q; exact q
      | some z =>
        rw [hg] at q
        cases z with
        | exc c => exact fun H' C e2 e3 => q H' C (e1.trans e2) e3
        | ok d => exact fun H' v e2 r2 => q H' v (e1.trans e2) (r2.pre e1)
theorem j_call {e : Expr} (d : Df X.prog X.w X.K X.mg X.base k x g) (tk : Takes X W) (hr : Room k X.A) (hg : Gl X x) (ha : JA .s X W (e :: es) fe) (hdb : (x == ("__debug__" : Str)) = false := by decide)
    (he : starEach (e :: es) X.env = (false, eval e X.env) :: starEach es X.env := by rfl) (hpl : (backTo pos (starEach es X.env)).any (·.1) = false := by rfl) : JE .s X W (.Call (.Name x p) (e :: es) [] pos) (eFn g fe) := by
  obtain ⟨f, fd, ps, h1, h2, h3, h4⟩ := d.ex
  refine ⟨PE.imp (pe_callSD (E := WE W) h4 hr hg h1 h2 h3 .nil (fun σ => passAt tk σ) ha hdb he hpl) ?_⟩
  intro σ H Q q
  refine fn_core q fun O m ds H1 vs rf e1 r1 q => ?_
  refine ⟨O, ds, rf.ok.same e1, by rw [List.append_nil]; exact r1, ?_⟩
  cases hg : g ds with
  | none => rw [hg] at q; exact q
  | some z =>
    rw [hg] at q
    cases z with
    | exc c => exact q
    | ok d => exact fun H' v e2 r2 => q H' v e2 r2
/-- f(), of no arguments -/
theorem j_call0 (d : Df X.prog X.w X.K X.mg X.base k x g) (tk : Takes X W) (hr : Room k X.A) (hg : Gl X x) (hdb : (x == ("__debug__" : Str)) = false := by decide) : JE .s X W (.Call (.Name x p) [] [] pos) (eFn g elNil) := by
  obtain ⟨f, fd, ps, h1, h2, h3, h4⟩ := d.ex
  refine ⟨⟨fun pins s σ H Q I h => ?_⟩⟩
  obtain ⟨O, m, rf, q⟩ := h
  refine wpAny_Call_Name_kw (ld_glob I hg h1 ?_ hdb)
  refine PySem.W.callWith_K0 I.kIn h2 (run_fnSD (E := WE W) (us := []) (vs := []) (dvs := []) (ds := []) h4 hr h3 .nil (passAt tk σ) I .nil ⟨O, [], rf.ok, .nil, ?_⟩)
  have q2 : (match g [] with
    | some (.ok d) => ∀ H' v, Same H H' → Rv .s X.K O H H' v d → Q v H'
    | some (.exc c) => ∀ H' C, Same H H' → X.mg c = some (.ref C) → W (.ref C) none σ H'
    | none => False) := q
  cases hg : g [] with
  | none => rw [hg] at q2; exact q2
  | some z =>
    rw [hg] at q2
    cases z with
    | exc c => exact q2
    | ok d => exact fun H' v e2 r2 => q2 H' v e2 r2
/-! ### built-in functions, by values -/
def OpDL (K : PySem.W.Frag) (l : Lv) (r : List V → Hp → VK → Prop) (g : List D → Option D) : Prop := ∀ (O : List Addr) (H : Hp) (vs : List V) (ds : List D) (d : D) (Q : VK), OwnOk O H → Paired (Rp1 K O H) vs ds → g ds = some d →
  (∀ H' v, Same H H' → Rv l K O H H' v d → Q v H') → r vs H Q
theorem bi_core {r : List V → Hp → VK → Prop} {g : List D → Option D} (hg : OpDL X.K l r g) {σ : L2.St} {H : Hp} {Q : VK} (q : RdE l X W (eFn (fun ds => ret (g ds)) fe) σ H Q) : tCB r (RdA .w X W fe) σ H Q := by
  refine fn_core q fun O m ds H1 vs rf e1 r1 q => ?_
  cases h : g ds with
  | none => rw [h] at q; exact q.elim
  | some d =>
    rw [h] at q
    exact hg O H1 vs ds d Q (rf.ok.same e1) r1 h q
theorem j_bi {e : Expr} {id : String} {r : List V → Hp → VK → Prop} {g : List D → Option D} (hc : CallR X (.builtin id) r) (hg : OpDL X.K l r g) (hm : X.mg x = none) (hv : bootBuiltins x = some (.builtin id)) (hgl : Gl X x) (ha : JA .w X W (e :: es) fe)
    (hn : x ≠ "__name__" := by decide) (hdb : (x == ("__debug__" : Str)) = false := by decide)
    (he : starEach (e :: es) X.env = (false, eval e X.env) :: starEach es X.env := by rfl) (hpl : (backTo pos (starEach es X.env)).any (·.1) = false := by rfl) : JE l X W (.Call (.Name x p) (e :: es) [] pos) (eFn (fun ds => ret (g ds)) fe) :=
  ⟨PE.imp (pe_callB hc hgl hm hv ha hn hdb he hpl) fun _ _ _ q => bi_core hg q⟩
theorem j_bt {e : Expr} {T : String} {r : List V → Hp → VK → Prop} {g : List D → Option D} (hc : CallR X (.type T) r) (hg : OpDL X.K l r g) (hm : X.mg x = none) (hv : bootBuiltins x = some (.type T)) (hgl : Gl X x) (ha : JA .w X W (e :: es) fe)
    (hn : x ≠ "__name__" := by decide) (hdb : (x == ("__debug__" : Str)) = false := by decide)
    (he : starEach (e :: es) X.env = (false, eval e X.env) :: starEach es X.env := by rfl) (hpl : (backTo pos (starEach es X.env)).any (·.1) = false := by rfl) : JE l X W (.Call (.Name x p) (e :: es) [] pos) (eFn (fun ds => ret (g ds)) fe) :=
  ⟨PE.imp (pe_callTy hc hgl hm hv ha hn hdb he hpl) fun _ _ _ q => bi_core hg q⟩
/-! ### a op b op c -/
theorem chain_core {r1 r2 : R2} {g1 g2 : D → D → Option D} (h1 : OpD X.K .s r1 g1) (h2 : OpD X.K .s r2 g2) {σ : L2.St} {H : Hp} {Q : VK} (q : RdE .s X W (eChain g1 g2 fa fb fc) σ H Q) : tChain r1 r2 (RdE l1 X W fa) (RdE l2 X W fb) (RdE l3 X W fc) σ H Q := by
  obtain ⟨O, m, rf, q⟩ := q
  refine rd2 (k := fun x y => bnd (ret (g1 x y)) fun z => match z with | .bool true => bnd (fc m) fun u => ret (g2 y u) | .bool false => some (.ok (.bool false)) | _ => none) rf (fun {c H' C} h1 h2 h3 => ?_) (fun h => ?_) fun dx dy H1 H2 x y e1 e2 s1 s2 r1' r2' => ?_
  · rw [show eChain g1 g2 fa fb fc m = some (.exc c) from h1] at q
    exact q H' C h2 h3
  · rw [show eChain g1 g2 fa fb fc m = none from h] at q
    exact q
  · have hr : eChain g1 g2 fa fb fc m = bnd (ret (g1 dx dy)) fun z => match z with | .bool true => bnd (fc m) fun u => ret (g2 dy u) | .bool false => some (.ok (.bool false)) | _ => none := by unfold eChain; rw [e1, e2]; rfl
    rw [hr] at q
    have ok2 := (rf.ok.same s1).same s2
    have y2 := r2'.rp1 (rf.ok.same s1)
    cases hg : g1 dx dy with
    | none => rw [hg] at q; exact q.elim
    | some d1 =>
      rw [hg] at q
      refine h1 O H2 x y dx dy d1 _ ok2 ((r1'.rp1 rf.ok).same s2) y2 hg fun H3 v s3 r3 => ?_
      cases d1 with
      | bool t =>
        cases (show Rp X.K O H3 v (.bool t) from r3)
        refine ⟨t, rfl, ?_⟩
        have s13 : Same H H3 := (s1.trans s2).trans s3
        cases t with
        | false => exact iteF (q H3 _ s13 .of_bl)
        | true =>
          refine iteT ⟨O, m, rf.same s13, ?_⟩
          dsimp only [bnd, ret] at q
          cases hc : fc m with
          | none => rw [hc] at q; exact q
          | some z =>
            rw [hc] at q
            cases z with
            | exc c => exact fun H' C s4 e => q H' C (s13.trans s4) e
            | ok du =>
              intro H4 u s4 r4
              dsimp only [bnd, ret] at q
              cases hg2 : g2 dy du with
              | none => rw [hg2] at q; exact q.elim
              | some d2 =>
                rw [hg2] at q
                exact h2 O H4 y u dy du d2 Q ((ok2.same s3).same s4) ((y2.same s3).same s4) (r4.rp1 (ok2.same s3)) hg2 fun H' v s5 r5 => q H' v ((s13.trans s4).trans s5) (r5.pre (s13.trans s4))
      | none => exact q.elim
      | int i => exact q.elim
      | str x => exact q.elim
      | list xs => exact q.elim
      | tuple xs => exact q.elim
      | dict xs => exact q.elim
theorem j_chain {o1 o2 : CmpOp} {g1 g2 : D → D → Option D} (k1 : CmpK X o1 g1) (k2 : CmpK X o2 g2) (ha : JE l1 X W a fa) (hb : JE l2 X W b fb) (hc : JE l3 X W c fc) (hm : lastMarks [o1, o2] [b, c] = false := by with_unfolding_all rfl) :
    JE .s X W (.Compare a [o1, o2] [b, c] pos) (eChain g1 g2 fa fb fc) := by
  obtain ⟨r1, a1, a2⟩ := k1.ex
  obtain ⟨r2, b1, b2⟩ := k2.ex
  exact ⟨PE.imp (pe_chain a1 b1 ha.pe hb.pe hc.pe hm) fun _ _ _ q => chain_core a2 b2 q⟩
theorem t_chain {o1 o2 : CmpOp} {g1 g2 : D → D → Option D} (k1 : CmpK X o1 g1) (k2 : CmpK X o2 g2) (ha : JE l1 X W a fa) (hb : JE l2 X W b fb) (hc : JE l3 X W c fc) (hm : lastMarks [o1, o2] [b, c] = false := by with_unfolding_all rfl) :
    JT X W (.Compare a [o1, o2] [b, c] pos) (eChain g1 g2 fa fb fc) := by
  obtain ⟨r1, a1, a2⟩ := k1.ex
  obtain ⟨r2, b1, b2⟩ := k2.ex
  exact ⟨PT.imp (pt_chain a1 b1 ha.pe hb.pe hc.pe hm) fun _ _ _ q => chain_core a2 b2 (test_of q)⟩
/-! ### isinstance(x, T) -/
def tyName : D → String
  | .none => "NoneType"
  | .bool _ => "bool"
  | .int _ => "int"
  | .str _ => "str"
  | .list _ => "list"
  | .tuple _ => "tuple"
  | .dict _ => "dict"
def gIsT (T : String) (d : D) : Option D := (kitB (tyName d) T).map PyData.bool
theorem rp1_ty {K : PySem.W.Frag} {O : List Addr} {H : Hp} {v : V} {d : D} (h : Rp1 K O H v d) (hd : ∀ kvs, d ≠ .dict kvs) : TyX K H v (.type (tyName d)) := by
  cases d with
  | none => rw [rp1_non h]; exact .base .non
  | bool b => rw [rp1_bl h]; exact .base (.bl b)
  | int b => rw [rp1_int h]; exact .base (.int b)
  | str b => rw [rp1_str h]; exact .base (.str b)
  | tuple xs =>
    obtain ⟨a, ys, rfl, q, _⟩ := rp1_tup h
    rcases q with (q | ⟨o, q⟩) | ⟨o, its, n, q, c, _⟩
    · exact .base (.tup q)
    · exact .fTuple q
    · exact .kTuple q c
  | list xs =>
    obtain ⟨a, ys, rfl, q, _⟩ := h
    rcases q with (q | ⟨o, q⟩) | ⟨o, its, n, q, c, _⟩
    · exact .base (.lst q)
    · exact .base (.frz q)
    · exact .kList q c
  | dict xs => exact absurd rfl (hd xs)
theorem j_isi {T : String} {y : Str} {p2 : Pos} (hm : X.mg "isinstance" = none) (hg : Gl X "isinstance") (hy : X.mg y = none) (hyg : Gl X y) (hv : bootBuiltins y = some (.type T)) (ha : JE l1 X W a fa)
    (hs : starEach [a, .Name y p2] X.env = (false, eval a X.env) :: starEach [.Name y p2] X.env := by rfl) (hs2 : starEach [.Name y p2] X.env = (false, eval (.Name y p2) X.env) :: starEach [] X.env := by rfl)
    (hpl : (backTo pos (starEach [.Name y p2] X.env)).any (·.1) = false := by rfl) (hn : y ≠ "__name__" := by decide) (hd : (y == ("__debug__" : Str)) = false := by decide) :
    JE .s X W (.Call (.Name "isinstance" p) [a, .Name y p2] [] pos) (eOp1 (fun d => match d with | .dict _ => none | d => gIsT T d) fa) := by
  have hb : PE X (.Name y p2) (tC (.ty T)) := pe_bltn hyg hy hv rfl hn hd
  refine ⟨PE.imp (pe_callB call_isi hg hm PyProof.Rows.boot_isinstance (pa_cons ha.pe (pa_cons hb pa_nil hs2) hs) (by decide) (by decide) hs hpl) ?_⟩
  intro σ H Q q
  refine op1_core (r := fun x H1 Q => rIsi X.K [x, .ty T] H1 Q) ?_ q
  intro O H1 v dx d Q ok r hgd q
  have hd : ∀ kvs, dx ≠ .dict kvs := fun kvs e => by subst e; cases hgd
  have hgd : gIsT T dx = some d := by
    cases dx with
    | dict kvs => cases hgd
    | _ => exact hgd
  unfold gIsT at hgd
  cases hk : kitB (tyName dx) T with
  | none => rw [hk] at hgd; cases hgd
  | some t =>
    rw [hk] at hgd
    cases hgd
    exact ⟨v, .ty T, _, .type T, t, rfl, .ty T, rp1_ty r hd, kit_ty hk, q H1 _ (Same.refl H1) .of_bl⟩
end
end MP

set_option Elab.async false
set_option linter.all false
set_option maxRecDepth 100000
namespace MP
open PySem PySem.Spec PyProof.Rows L2
/-! ### lists of one kind -/
def intsD : List D → Option (List Int)
  | [] => some []
  | .int i :: r => (intsD r).map (i :: ·)
  | _ :: _ => none
def boolsD : List D → Option (List Bool)
  | [] => some []
  | .bool i :: r => (boolsD r).map (i :: ·)
  | _ :: _ => none
def strsD : List D → Option (List Str)
  | [] => some []
  | .str i :: r => (strsD r).map (i :: ·)
  | _ :: _ => none
theorem intsD_map : ∀ ns : List Int, intsD (ns.map PyData.int) = some ns
  | [] => rfl
  | n :: ns => by rw [List.map_cons]; unfold intsD; rw [intsD_map ns]; rfl
theorem boolsD_map : ∀ ns : List Bool, boolsD (ns.map PyData.bool) = some ns
  | [] => rfl
  | n :: ns => by rw [List.map_cons]; unfold boolsD; rw [boolsD_map ns]; rfl
theorem strsD_map : ∀ ns : List Str, strsD (ns.map PyData.str) = some ns
  | [] => rfl
  | n :: ns => by rw [List.map_cons]; unfold strsD; rw [strsD_map ns]; rfl
theorem intsD_eq : ∀ {ds : List D} {ns : List Int}, intsD ds = some ns → ds = ns.map PyData.int
  | [], _, h => by cases h; rfl
  | .int i :: r, ns, h => by
    unfold intsD at h
    cases e : intsD r with
    | none => rw [e] at h; cases h
    | some ms => rw [e] at h; cases h; rw [intsD_eq e]; rfl
  | .none :: r, ns, h => by cases h
  | .bool i :: r, ns, h => by cases h
  | .str i :: r, ns, h => by cases h
  | .list i :: r, ns, h => by cases h
  | .tuple i :: r, ns, h => by cases h
  | .dict i :: r, ns, h => by cases h
theorem boolsD_eq : ∀ {ds : List D} {ns : List Bool}, boolsD ds = some ns → ds = ns.map PyData.bool
  | [], _, h => by cases h; rfl
  | .bool i :: r, ns, h => by
    unfold boolsD at h
    cases e : boolsD r with
    | none => rw [e] at h; cases h
    | some ms => rw [e] at h; cases h; rw [boolsD_eq e]; rfl
  | .none :: r, ns, h => by cases h
  | .int i :: r, ns, h => by cases h
  | .str i :: r, ns, h => by cases h
  | .list i :: r, ns, h => by cases h
  | .tuple i :: r, ns, h => by cases h
  | .dict i :: r, ns, h => by cases h
theorem strsD_eq : ∀ {ds : List D} {ns : List Str}, strsD ds = some ns → ds = ns.map PyData.str
  | [], _, h => by cases h; rfl
  | .str i :: r, ns, h => by
    unfold strsD at h
    cases e : strsD r with
    | none => rw [e] at h; cases h
    | some ms => rw [e] at h; cases h; rw [strsD_eq e]; rfl
  | .none :: r, ns, h => by cases h
  | .int i :: r, ns, h => by cases h
  | .bool i :: r, ns, h => by cases h
  | .list i :: r, ns, h => by cases h
  | .tuple i :: r, ns, h => by cases h
  | .dict i :: r, ns, h => by cases h
/-! ### the functions -/
def bLen : List D → Option D
  | [.list xs] => some (.int xs.length)
  | [.tuple xs] => some (.int xs.length)
  | [.str z] => if z.length ≤ line then some (.int z.length) else none
  | _ => none
def bAll : List D → Option D
  | [.list xs] => (boolsD xs).map fun bs => .bool (bs.all id)
  | _ => none
def bAny : List D → Option D
  | [.list xs] => (boolsD xs).map fun bs => .bool (bs.any id)
  | _ => none
def bSum : List D → Option D
  | [.list xs] => (intsD xs).map fun ns => .int ns.sum
  | _ => none
def bMax : List D → Option D
  | [.list xs] => (intsD xs).bind fun ns => if ns.isEmpty then none else some (.int (mx ns))
  | _ => none
def bMin : List D → Option D
  | [.list xs] => (intsD xs).bind fun ns => if ns.isEmpty then none else some (.int (mn ns))
  | _ => none
def bMax2 : List D → Option D
  | [.int i, .int j] => some (.int (if j > i then j else i))
  | _ => none
def bMin2 : List D → Option D
  | [.int i, .int j] => some (.int (if j < i then j else i))
  | _ => none
def bAbs : List D → Option D
  | [.int i] => some (.int (if i < 0 then -i else i))
  | _ => none
def bTuple : List D → Option D
  | [.list xs] => some (.tuple xs)
  | [.tuple xs] => some (.tuple xs)
  | _ => none
def bList : List D → Option D
  | [.list xs] => some (.list xs)
  | [.tuple xs] => some (.list xs)
  | _ => none
def bInt : List D → Option D
  | [.int i] => some (.int i)
  | _ => none
def bStr : List D → Option D
  | [.int i] => if i.natAbs < 1000000 then some (.str (toString i)) else none
  | _ => none
def bSortI : List D → Option D
  | [.list xs] => (intsD xs).map fun ns => .list ((srt ns).map PyData.int)
  | _ => none
def bUSort : List D → Option D
  | [.list xs] => (intsD xs).bind fun ns => if ns.length < 64 then some (.list ((usrt ns).map PyData.int)) else none
  | _ => none
section
variable {X : Cx} {K : PySem.W.Frag}
theorem pair_nil {α β : Type} {R : α → β → Prop} {l : List α} (h : Paired R l []) : l = [] := by cases h; rfl
theorem pair_one {α β : Type} {R : α → β → Prop} {l : List α} {b : β} (h : Paired R l [b]) : ∃ a, l = [a] ∧ R a b := by
  cases h with
  | cons r t => cases t; exact ⟨_, rfl, r⟩
theorem pair_two {α β : Type} {R : α → β → Prop} {l : List α} {b c : β} (h : Paired R l [b, c]) : ∃ a d, l = [a, d] ∧ R a b ∧ R d c := by
  cases h with
  | cons r t =>
    obtain ⟨d, e, q⟩ := pair_one t
    subst e
    exact ⟨_, _, rfl, r, q⟩
theorem od_len : OpDL K .s (fun xs H Q => ∃ x n, xs = [x] ∧ LenV K x H n ∧ Q (.int n) H) bLen := by
  intro O H vs ds d Q ok r h q
  unfold bLen at h
  split at h
  · cases h
    obtain ⟨v, rfl, a, xs, rfl, e1, e2⟩ := pair_one r
    exact ⟨_, _, rfl, .inl ⟨xs, e1, rfl⟩, by rw [e2.length]; exact q H _ (Same.refl H) .of_int⟩
  · cases h
    obtain ⟨v, rfl, e⟩ := pair_one r
    obtain ⟨a, xs, rfl, e1, e2⟩ := rp1_tup e
    exact ⟨_, _, rfl, .inr ⟨xs, e1, rfl⟩, by rw [e2.length]; exact q H _ (Same.refl H) .of_int⟩
  · split at h
    · rename_i hl
      cases h
      obtain ⟨v, rfl, e⟩ := pair_one r
      rw [rp1_str e]
      exact ⟨_, _, rfl, ⟨line_le hl, rfl⟩, q H _ (Same.refl H) .of_int⟩
    · cases h
  · cases h
theorem one_list {O : List Addr} {H : Hp} {vs : List V} {xs : List D} (r : Paired (Rp1 K O H) vs [.list xs]) : ∃ a ys, vs = [.ref a] ∧ SqL K H a ys ∧ RpAll K O H ys xs := by
  obtain ⟨v, rfl, a, ys, rfl, e1, e2⟩ := pair_one r
  exact ⟨a, ys, rfl, e1, e2⟩
theorem od_all : OpDL K .s (rAll K) bAll := by
  intro O H vs ds d Q ok r h q
  unfold bAll at h
  split at h
  · obtain ⟨a, ys, rfl, e1, e2⟩ := one_list r
    rename_i xs
    cases hb : boolsD xs with
    | none => rw [hb] at h; cases h
    | some bs =>
      rw [hb] at h
      cases h
      rw [boolsD_eq hb] at e2
      rw [e2.bls] at e1
      exact ⟨a, bs, rfl, e1, q H _ (Same.refl H) .of_bl⟩
  · cases h
theorem od_any : OpDL K .s (rAny K) bAny := by
  intro O H vs ds d Q ok r h q
  unfold bAny at h
  split at h
  · obtain ⟨a, ys, rfl, e1, e2⟩ := one_list r
    rename_i xs
    cases hb : boolsD xs with
    | none => rw [hb] at h; cases h
    | some bs =>
      rw [hb] at h
      cases h
      rw [boolsD_eq hb] at e2
      rw [e2.bls] at e1
      exact ⟨a, bs, rfl, e1, q H _ (Same.refl H) .of_bl⟩
  · cases h
theorem one_ints {O : List Addr} {H : Hp} {vs : List V} {xs : List D} {ns : List Int} (r : Paired (Rp1 K O H) vs [.list xs]) (hi : intsD xs = some ns) : ∃ a, vs = [.ref a] ∧ SqL K H a (ns.map V.int) := by
  obtain ⟨a, ys, rfl, e1, e2⟩ := one_list r
  rw [intsD_eq hi] at e2
  rw [e2.ints] at e1
  exact ⟨a, rfl, e1⟩
theorem od_sum : OpDL K .s (rSum K) bSum := by
  intro O H vs ds d Q ok r h q
  unfold bSum at h
  split at h
  · rename_i xs
    cases hb : intsD xs with
    | none => rw [hb] at h; cases h
    | some ns =>
      rw [hb] at h
      cases h
      obtain ⟨a, e, e1⟩ := one_ints r hb
      exact ⟨a, ns, e, e1, q H _ (Same.refl H) .of_int⟩
  · cases h
theorem od_max : OpDL K .s (rMax K) bMax := by
  intro O H vs ds d Q ok r h q
  unfold bMax at h
  split at h
  · rename_i xs
    cases hb : intsD xs with
    | none => rw [hb] at h; cases h
    | some ns =>
      rw [hb] at h
      obtain ⟨a, e, e1⟩ := one_ints r hb
      cases ns with
      | nil => cases h
      | cons n ns =>
        cases h
        exact ⟨a, _, e, e1, by simp, fun m h1 h2 => by rw [mx_unique h1 h2]; exact q H _ (Same.refl H) .of_int⟩
  · cases h
theorem od_min : OpDL K .s (rMin K) bMin := by
  intro O H vs ds d Q ok r h q
  unfold bMin at h
  split at h
  · rename_i xs
    cases hb : intsD xs with
    | none => rw [hb] at h; cases h
    | some ns =>
      rw [hb] at h
      obtain ⟨a, e, e1⟩ := one_ints r hb
      cases ns with
      | nil => cases h
      | cons n ns =>
        cases h
        exact ⟨a, _, e, e1, by simp, fun m h1 h2 => by rw [mn_unique h1 h2]; exact q H _ (Same.refl H) .of_int⟩
  · cases h
theorem od_max2 : OpDL K .s (fun xs H Q => ∃ i j, xs = [.int i, .int j] ∧ Q (.int (if j > i then j else i)) H) bMax2 := by
  intro O H vs ds d Q ok r h q
  unfold bMax2 at h
  split at h
  · cases h
    obtain ⟨v, u, rfl, e1, e2⟩ := pair_two r
    rw [rp1_int e1, rp1_int e2]
    exact ⟨_, _, rfl, q H _ (Same.refl H) .of_int⟩
  · cases h
theorem od_min2 : OpDL K .s (fun xs H Q => ∃ i j, xs = [.int i, .int j] ∧ Q (.int (if j < i then j else i)) H) bMin2 := by
  intro O H vs ds d Q ok r h q
  unfold bMin2 at h
  split at h
  · cases h
    obtain ⟨v, u, rfl, e1, e2⟩ := pair_two r
    rw [rp1_int e1, rp1_int e2]
    exact ⟨_, _, rfl, q H _ (Same.refl H) .of_int⟩
  · cases h
theorem od_abs : OpDL K .s (fun xs H Q => ∃ i, xs = [.int i] ∧ Q (.int (if i < 0 then -i else i)) H) bAbs := by
  intro O H vs ds d Q ok r h q
  unfold bAbs at h
  split at h
  · cases h
    obtain ⟨v, rfl, e1⟩ := pair_one r
    rw [rp1_int e1]
    exact ⟨_, rfl, q H _ (Same.refl H) .of_int⟩
  · cases h
theorem od_tuple : OpDL K .s (fun xs H Q => ∃ p ys, xs = [.ref p] ∧ ((SqL K H p ys ∧ ∀ l, H l = none → Q (.ref l) (upd H l (.tup ys))) ∨ (SqT K H p ys ∧ Q (.ref p) H))) bTuple := by
  intro O H vs ds d Q ok r h q
  unfold bTuple at h
  split at h
  · cases h
    obtain ⟨a, ys, rfl, e1, e2⟩ := one_list r
    exact ⟨a, ys, rfl, .inl ⟨e1, fun p hp => q _ _ (same_upd hp) (Rp.tup upd_same (e2.same (same_upd hp)))⟩⟩
  · cases h
    obtain ⟨v, rfl, e⟩ := pair_one r
    obtain ⟨a, xs, rfl, e1, e2⟩ := rp1_tupP e
    exact ⟨a, xs, rfl, .inr ⟨.inl (.inl e1), q H _ (Same.refl H) (Rp.tup e1 e2)⟩⟩
  · cases h
theorem od_list : OpDL K .f (fun xs H Q => ∃ p ys, xs = [.ref p] ∧ (SqL K H p ys ∨ SqT K H p ys) ∧ ∀ l, H l = none → Q (.ref l) (upd H l (.lst ys))) bList := by
  intro O H vs ds d Q ok r h q
  unfold bList at h
  split at h
  · cases h
    obtain ⟨a, ys, rfl, e1, e2⟩ := one_list r
    exact ⟨a, ys, rfl, .inl e1, fun p hp => q _ _ (same_upd hp) ⟨p, ys, rfl, hp, upd_same, rp_new e2 ok hp⟩⟩
  · cases h
    obtain ⟨v, rfl, e⟩ := pair_one r
    obtain ⟨a, xs, rfl, e1, e2⟩ := rp1_tup e
    exact ⟨a, xs, rfl, .inr e1, fun p hp => q _ _ (same_upd hp) ⟨p, xs, rfl, hp, upd_same, rp_new e2 ok hp⟩⟩
  · cases h
theorem od_int1 : OpDL K .s (fun xs H Q => (∃ i, xs = [.int i] ∧ Q (.int i) H) ∨ ∃ k, xs = [.bl k] ∧ Q (.int (if k then 1 else 0)) H) bInt := by
  intro O H vs ds d Q ok r h q
  unfold bInt at h
  split at h
  · cases h
    obtain ⟨v, rfl, e1⟩ := pair_one r
    rw [rp1_int e1]
    exact .inl ⟨_, rfl, q H _ (Same.refl H) .of_int⟩
  · cases h
theorem od_str : OpDL K .s (fun xs H Q => ∃ i, xs = [.int i] ∧ i.natAbs.log2 < 1920 ∧ Q (.str (toString i)) H) bStr := by
  intro O H vs ds d Q ok r h q
  unfold bStr at h
  split at h
  · split at h
    · rename_i i hl
      cases h
      obtain ⟨v, rfl, e1⟩ := pair_one r
      rw [rp1_int e1]
      refine ⟨_, rfl, ?_, q H _ (Same.refl H) .of_str⟩
      by_cases h0 : i.natAbs = 0
      · rw [h0]; decide
      · exact (Nat.log2_lt h0).mpr (Nat.lt_of_lt_of_le hl (Nat.le_trans (by decide : 1000000 ≤ 2 ^ 20) (Nat.pow_le_pow_right (by decide) (by decide))))
    · cases h
  · cases h
theorem rpI {O : List Addr} {H : Hp} {ns : List Int} : RpAll K O H (ns.map V.int) (ns.map PyData.int) := RpAll.of_ints
theorem od_sortI : OpDL K .f (rSortedI K) bSortI := by
  intro O H vs ds d Q ok r h q
  unfold bSortI at h
  split at h
  · rename_i xs
    cases hb : intsD xs with
    | none => rw [hb] at h; cases h
    | some ns =>
      rw [hb] at h
      cases h
      obtain ⟨a, e, e1⟩ := one_ints r hb
      refine ⟨a, ns, e, e1, fun ns' p h1 h2 hp => ?_⟩
      rw [srt_unique h2 h1]
      exact q _ _ (same_upd hp) ⟨p, _, rfl, hp, upd_same, rpI⟩
  · cases h
/-- set(list of ints) -/
def rSetI (K : PySem.W.Frag) (w : World) : List V → Hp → VK → Prop := fun vs H Q => ∃ (a : Addr) (ns : List Int), vs = [.ref a] ∧ SqL K H a (ns.map V.int) ∧ ns.length < 64 ∧ ∀ p c, H p = none → c ≤ ns.length → Q (.ref p) (upd H p (SetO w p (fun j => decide (j ∈ ns)) c))
theorem cr_setI (hc : X.calm = true) : CallR X (.type "set") (rSetI X.K X.w) := by
  intro pins s σ H vs us Q I r h
  obtain ⟨a, ns, rfl, hl, hz, q⟩ := h
  obtain ⟨u, rfl, ru⟩ := vals1 r
  cases ru
  obtain ⟨its, rv, pl, _⟩ := I.list hl
  refine set_of_ints ns (I.ok.hd hc) pl.isList (by simpa using intsAre_of rv) (Nat.lt_of_le_of_lt (show ns.length + 1 ≤ 64 by omega) (by decide)) fun h' tk c R hcn k => ?_
  exact ⟨.ref _, _, I.laid (t' := tk) k (Nat.le_refl _) (setO_new R), rfl, q _ c (I.hok.fresh (Nat.le_refl _)) hcn⟩
end
section
variable {X : Cx} {W : WX} {l l1 l2 l3 : Lv} {a b c e : Expr} {fa fb fc : E} {pos p : Pos} {es : List Expr} {fe : EL}
theorem b_len : CallR X (.builtin "len") (fun xs H Q => ∃ x n, xs = [x] ∧ LenV X.K x H n ∧ Q (.int n) H) := call_len
/-- sorted(set(e)), e a list of ints -/
theorem j_usort {p1 p2 : Pos} (hc : X.calm = true) (m1 : X.mg "sorted" = none) (m2 : X.mg "set" = none) (g1 : Gl X "sorted") (g2 : Gl X "set") (ha : JA .w X W [e] fe)
    (hs : starEach [e] X.env = (false, eval e X.env) :: starEach [] X.env := by rfl) (hs2 : starEach [Expr.Call (.Name "set" p1) [e] [] p2] X.env = (false, eval (.Call (.Name "set" p1) [e] [] p2) X.env) :: starEach [] X.env := by rfl) :
    JE .f X W (.Call (.Name "sorted" p) [.Call (.Name "set" p1) [e] [] p2] [] pos) (eFn (fun ds => ret (bUSort ds)) fe) := by
  have h1 : PE X (.Call (.Name "set" p1) [e] [] p2) (tCB (rSetI X.K X.w) (RdA .w X W fe)) := pe_callTy (cr_setI hc) g2 m2 PyProof.Rows.boot_set ha (by decide) (by decide) hs rfl
  refine ⟨PE.imp (pe_callB (cr_sortedSet hc) g1 m1 PyProof.Rows.boot_sorted (pa_cons h1 pa_nil hs2) (by decide) (by decide) hs2 rfl) ?_⟩
  intro σ H Q q
  refine fn_core q fun O m ds H1 vs rf e1 r1 q => ?_
  cases hb : bUSort ds with
  | none => rw [hb] at q; exact q.elim
  | some d =>
    rw [hb] at q
    unfold bUSort at hb
    split at hb
    · rename_i xs
      cases hi : intsD xs with
      | none => rw [hi] at hb; cases hb
      | some ns =>
        rw [hi] at hb
        obtain ⟨a, e, e1⟩ := one_ints r1 hi
        by_cases hz : ns.length < 64
        · have hb : some (PyData.list ((usrt ns).map PyData.int)) = some d := by rw [← hb]; exact (if_pos hz).symm
          cases hb
          refine ⟨a, ns, e, e1, hz, fun p c hp hcn => ⟨p, _, c, rfl, upd_same, by omega, fun ms p2 h1 h2 h3 hp2 => ?_⟩⟩
          rw [usrt_unique (l := ns) h1 (fun z => (h2 z).trans decide_eq_true_iff)]
          have s1 := same_upd (o := SetO X.w p (fun j => decide (j ∈ ns)) c) hp
          have s2 := same_upd (o := .lst ((usrt ns).map V.int)) hp2
          exact q _ _ (s1.trans s2) ⟨p2, _, rfl, s1.free hp2, upd_same, rpI⟩
        · have hb : none = some d := by rw [← hb]; exact (if_neg hz).symm
          cases hb
    · cases hb
end
end MP

set_option Elab.async false
set_option linter.all false
set_option maxRecDepth 100000
namespace MP
open PySem PySem.Spec PyProof.Rows L2
/-! ### slices -/
/-- a part of a slice: none, or an int -/
abbrev EP' := En → Option (Except Str (Option Int))
def pNone : EP' := fun _ => some (.ok none)
def pSome (f : E) : EP' := fun m => match f m with
  | some (.ok (.int i)) => some (.ok (some i))
  | some (.exc c) => some (.error c)
  | _ => none
def RdP (X : Cx) (W : WX) (f : EP') : TO := fun σ H Q => ∃ O m, Ref X O m σ H ∧ match f m with
  | some (.ok o) => ∀ H', Same H H' → Q o H'
  | some (.error c) => ∀ H' C, Same H H' → X.mg c = some (.ref C) → W (.ref C) none σ H'
  | none => False
structure JP (X : Cx) (W : WX) (e : Option Expr) (f : EP') : Prop where
  po : PO X e (RdP X W f)
theorem PO.imp {X : Cx} {e : Option Expr} {t t' : TO} (h : PO X e t) (i : ∀ σ H Q, t' σ H Q → t σ H Q) : PO X e t' := ⟨fun pins s σ H Q I q => h.run pins s σ H Q I (i σ H Q q)⟩
section
variable {X : Cx} {W : WX} {l l1 l2 l3 : Lv} {a b c e : Expr} {fa fb fc : E} {pos p : Pos} {es : List Expr} {fe : EL}
theorem p_none : JP X W none pNone := ⟨PO.imp po_none fun σ H Q ⟨O, m, rf, q⟩ => q H (Same.refl H)⟩
theorem p_some (h : JE l1 X W a fa) : JP X W (some a) (pSome fa) := by
  refine ⟨PO.imp (po_some h.pe) ?_⟩
  intro σ H Q ⟨O, m, rf, q⟩
  refine ⟨O, m, rf, ?_⟩
  unfold pSome at q
  cases hf : fa m with
  | none => rw [hf] at q; exact q.elim
  | some z =>
    rw [hf] at q
    cases z with
    | exc c => exact q
    | ok d =>
      intro H1 v s1 r1
      cases d with
      | int i => exact ⟨i, rp1_int (r1.rp1 rf.ok), q H1 s1⟩
      | none => exact q.elim
      | bool i => exact q.elim
      | str x => exact q.elim
      | list xs => exact q.elim
      | tuple xs => exact q.elim
      | dict xs => exact q.elim
def gCut (d : D) (lo hi : Option Int) : Option D := match d with
  | .list xs => some (.list (cut xs lo hi))
  | .tuple xs => some (.tuple (cut xs lo hi))
  | .str z => if z.length ≤ line then some (.str (cutS z lo hi)) else none
  | _ => none
def eSlc (f : E) (lo hi : EP') : E := fun m => bnd (f m) fun d => match lo m with
  | some (.ok x) => (match hi m with
    | some (.ok y) => ret (gCut d x y)
    | some (.error c) => some (.exc c)
    | none => none)
  | some (.error c) => some (.exc c)
  | none => none
theorem rpAll_cut {K : PySem.W.Frag} {O : List Addr} {H : Hp} {xs : List V} {ds : List D} (h : RpAll K O H xs ds) (lo hi : Option Int) : RpAll K O H (cutV xs lo hi) (cut ds lo hi) := by
  unfold cutV cut
  rw [h.length]
  exact (h.drop _).take _
theorem j_slc {lo hi : Option Expr} {fl fh : EP'} {p2 : Pos} (ha : JE l1 X W a fa) (hl : JP X W lo fl) (hh : JP X W hi fh) : JE .f X W (.Subscript a (.Slice lo hi none p2) pos) (eSlc fa fl fh) := by
  refine ⟨PE.imp (pe_slice (SlR.or sl_list (SlR.or sl_tupA sl_str)) ha.pe hl.po hh.po) ?_⟩
  intro σ H Q ⟨O, m, rf, q⟩
  refine ⟨O, m, rf, ?_⟩
  unfold eSlc at q
  cases hf : fa m with
  | none => rw [hf] at q; exact q.elim
  | some z =>
    rw [hf] at q
    cases z with
    | exc c => exact q
    | ok d =>
      intro H1 v s1 r1
      refine ⟨O, m, rf.same s1, ?_⟩
      dsimp only [bnd] at q
      cases hl : fl m with
      | none => rw [hl] at q; exact q.elim
      | some z =>
        rw [hl] at q
        cases z with
        | error c => exact fun H' C s2 e => q H' C (s1.trans s2) e
        | ok x =>
          intro H2 s2
          refine ⟨O, m, (rf.same s1).same s2, ?_⟩
          dsimp only at q
          cases hh : fh m with
          | none => rw [hh] at q; exact q.elim
          | some z =>
            rw [hh] at q
            cases z with
            | error c => exact fun H' C s3 e => q H' C ((s1.trans s2).trans s3) e
            | ok y =>
              intro H3 s3
              dsimp only at q
              have s13 : Same H H3 := (s1.trans s2).trans s3
              have r3 : Rp1 X.K O H3 v d := (r1.rp1 rf.ok).same (s2.trans s3)
              cases hg : gCut d x y with
              | none => rw [hg] at q; exact q.elim
              | some d' =>
                rw [hg] at q
                unfold gCut at hg
                cases d with
                | list xs =>
                  cases hg
                  obtain ⟨a, ys, rfl, e1, e2⟩ := r3
                  exact .inl ⟨a, ys, rfl, e1, fun p hp => q _ _ (s13.trans (same_upd hp)) ⟨p, _, rfl, s13.free hp, upd_same, rp_new (rpAll_cut e2 x y) (rf.ok.same s13) hp⟩⟩
                | tuple xs =>
                  cases hg
                  obtain ⟨a, ys, rfl, e1, e2⟩ := rp1_tupP r3
                  refine .inr (.inl ⟨a, ys, rfl, .inl (.inl e1), fun hw => ?_, fun _ p hp => ?_⟩)
                  · have e : cut xs x y = xs := by
                      unfold cut
                      rw [← e2.length, hw.1, hw.2, e2.length, List.drop_zero, Nat.sub_zero, List.take_length]
                    rw [e] at q
                    exact q _ _ s13 (Rp.tup e1 e2)
                  · exact q _ _ (s13.trans (same_upd hp)) (Rp.tup upd_same ((rpAll_cut e2 x y).same (same_upd hp)))
                | str z =>
                  dsimp only at hg
                  split at hg
                  · rename_i hz
                    cases hg
                    exact .inr (.inr ⟨z, rp1_str r3, line_le hz, q _ _ s13 .of_str⟩)
                  · cases hg
                | none => cases hg
                | bool i => cases hg
                | int i => cases hg
                | dict i => cases hg
def gRev : D → Option D
  | .list xs => some (.list xs.reverse)
  | _ => none
theorem rpAll_rev {K : PySem.W.Frag} {O : List Addr} {H : Hp} : ∀ {xs : List V} {ds : List D}, RpAll K O H xs ds → RpAll K O H xs.reverse ds.reverse
  | _, _, .nil => .nil
  | _, _, .cons a b => by
    rw [List.reverse_cons, List.reverse_cons]
    exact (rpAll_rev b).app (.cons a .nil)
theorem j_rev {k : Nat} {p1 p2 p3 : Pos} (ha : JE l1 X W a fa) : JE .f X W (.Subscript a (.Slice none none (some (.UnaryOp .USub (.Constant (.int 1) k p1) p2)) p3) pos) (eOp1 gRev fa) := by
  refine ⟨PE.imp (pe_revL ha.pe) ?_⟩
  intro σ H Q q
  refine op1_core (r := fun x H1 Q => ∃ a xs, x = .ref a ∧ SqL X.K H1 a xs ∧ ∀ p, H1 p = none → Q (.ref p) (upd H1 p (.lst xs.reverse))) ?_ q
  intro O H1 v dx d Q ok r hg q
  unfold gRev at hg
  split at hg
  · cases hg
    obtain ⟨a, ys, rfl, e1, e2⟩ := r
    exact ⟨a, ys, rfl, e1, fun p hp => q _ _ (same_upd hp) ⟨p, _, rfl, hp, upd_same, rp_new (rpAll_rev e2) ok hp⟩⟩
  · cases hg
end
/-! ### what is walked -/
/-- the items, wherever the heap went by R -/
def WkR (K : PySem.W.Frag) (J : It) (ds : List D) (R : List Addr → Hp → Prop) : Prop :=
  (∀ O' H' i d, R O' H' → ds[i]? = some d → J.go i H' ∧ ∀ x H2, J.yld i H' x H2 → Same H' H2 ∧ Rp K O' H2 x d) ∧ ∀ O' H' i, R O' H' → ds.length ≤ i → J.stop i H'
/-- in a comprehension nothing is changed; in a for what is our own may be -/
def Rch (l : Lv) (O : List Addr) (H1 : Hp) (O' : List Addr) (H' : Hp) : Prop := match l with
  | .w => Same H1 H' ∧ ∀ a ∈ O', a ∈ O ∨ H1 a = none
  | _ => Fr O H1 O' H'
theorem fr_ext {O O' : List Addr} {H1 H' : Hp} (e : Same H1 H') (h : ∀ a ∈ O', a ∈ O ∨ H1 a = none) : Fr O H1 O' H' := fun a o q n => ⟨e a o q, fun z => (h a z).elim n fun w => by rw [w] at q; cases q⟩
def RdI (l : Lv) (X : Cx) (W : WX) (f : EL) : TI := fun σ H R => ∃ O m, Ref X O m σ H ∧ match f m with
  | some (.ok ds) => ∀ H1 J, Same H H1 → WkR X.K J ds (Rch l O H1) → R J H1
  | some (.exc c) => ∀ H' C, Same H H' → X.mg c = some (.ref C) → W (.ref C) none σ H'
  | none => False
structure JI (l : Lv) (X : Cx) (W : WX) (tg e : Expr) (f : EL) : Prop where
  pi : PI X tg e (RdI l X W f)
theorem PI.imp {X : Cx} {tg e : Expr} {t t' : TI} (h : PI X tg e t) (i : ∀ σ H Q, t' σ H Q → t σ H Q) : PI X tg e t' := ⟨fun pins s σ H Q I q => h.run pins s σ H Q I (i σ H Q q)⟩
theorem PI.or {X : Cx} {tg e : Expr} {t t' : TI} (h : PI X tg e t) (h' : PI X tg e t') : PI X tg e (fun σ H R => t σ H R ∨ t' σ H R) := ⟨fun pins s σ H Q I q => q.elim (h.run pins s σ H Q I) (h'.run pins s σ H Q I)⟩
section
variable {X : Cx} {W : WX} {l l1 l2 l3 : Lv} {tg a b c e : Expr} {fa fb fc : E} {pos p : Pos} {es : List Expr} {fe : EL}
def signs (z : Str) : List D := z.cps.toList.map fun c => .str ⟨#[c]⟩
/-- the items of a list, of a tuple, the signs of a text -/
def iSeq (f : E) : EL := fun m => match f m with
  | some (.ok (.list ds)) => some (.ok ds)
  | some (.ok (.tuple ds)) => some (.ok ds)
  | some (.ok (.str z)) => some (.ok (signs z))
  | some (.exc c) => some (.exc c)
  | _ => none
theorem seq_rch {K : PySem.W.Frag} {O O' : List Addr} {H1 H' : Hp} {v : V} {ds : List D} (h : Rv l K O H1 H1 v (.list ds)) (hl : l ≠ .f) (ok : OwnOk O H1) (r : Rch l O H1 O' H') : ∃ a xs, v = .ref a ∧ SqL K H' a xs ∧ RpAll K O' H' xs ds := by
  cases l with
  | w =>
    obtain ⟨e, ho⟩ := r
    obtain ⟨a, xs, rfl, h1, h2⟩ := h
    exact ⟨a, xs, rfl, e.seq h1, h2.fr ⟨fr_ext e ho, ok⟩⟩
  | s =>
    cases (Rp.fr (show Rp K O H1 v (.list ds) from h) ⟨r, ok⟩) with
    | lst q t => exact ⟨_, _, rfl, q.seq, t⟩
  | f => exact absurd rfl hl
theorem rp_rch {K : PySem.W.Frag} {O O' : List Addr} {H1 H' : Hp} {v : V} {d : D} (h : Rp K O H1 v d) (ok : OwnOk O H1) (r : Rch l O H1 O' H') : Rp K O' H' v d := by
  cases l with
  | w =>
    obtain ⟨e, ho⟩ := r
    exact h.fr ⟨fr_ext e ho, ok⟩
  | s => exact Rp.fr h ⟨r, ok⟩
  | f => exact Rp.fr h ⟨r, ok⟩
/-- the list that is walked is the same address all the way -/
theorem list_rch {K : PySem.W.Frag} {O : List Addr} {H0 H1 : Hp} {v : V} {ds : List D} (h : Rv l K O H0 H1 v (.list ds)) (hl : l ≠ .f) (ok : OwnOk O H1) : ∃ a, v = .ref a ∧ (∃ xs, SqL K H1 a xs) ∧ ∀ O' H', Rch l O H1 O' H' → ∃ xs, SqL K H' a xs ∧ RpAll K O' H' xs ds := by
  have hv : ∃ a xs, v = .ref a ∧ SqL K H1 a xs := by
    cases l with
    | w => obtain ⟨a, xs, e, h1, _⟩ := h; exact ⟨a, xs, e, h1⟩
    | s => cases (show Rp K O H1 v (.list ds) from h) with | lst q t => exact ⟨_, _, rfl, q.seq⟩
    | f => exact absurd rfl hl
  obtain ⟨a, xs, rfl, hx⟩ := hv
  refine ⟨a, rfl, ⟨xs, hx⟩, fun O' H' r => ?_⟩
  have h' : Rv l K O H1 H1 (.ref a) (.list ds) := by
    cases l with
    | w => exact h
    | s => exact h
    | f => exact absurd rfl hl
  obtain ⟨a', ys, e, q, t⟩ := seq_rch h' hl ok r
  cases e
  exact ⟨ys, q, t⟩
theorem SqL.len_uniq {K : PySem.W.Frag} {H : Hp} {a : Addr} {xs ys : List V} {i : Nat} {x : V} (h : ∀ zs, SqL K H a zs → zs[i]? = some x) (q : SqL K H a xs) : xs[i]? = some x := h xs q
theorem i_seq (ha : JE l X W e fa) (hl : l ≠ .f) : JI l X W tg e (iSeq fa) := by
  refine ⟨PI.imp (PI.or (pi_list ha.pe) (PI.or (pi_tup ha.pe) (pi_str ha.pe))) ?_⟩
  intro σ H R ⟨O, m, rf, q⟩
  unfold iSeq at q
  cases hf : fa m with
  | none => rw [hf] at q; exact q.elim
  | some z =>
    rw [hf] at q
    cases z with
    | exc c => exact .inl ⟨O, m, rf, by rw [hf]; exact q⟩
    | ok d =>
      cases d with
      | list ds =>
        refine .inl ⟨O, m, rf, ?_⟩
        rw [hf]
        intro H1 v s1 r1
        obtain ⟨a, rfl, hx, walk⟩ := list_rch r1 hl (rf.ok.same s1)
        refine ⟨a, rfl, hx, q H1 _ s1 ⟨fun O' H' i d hr hd => ?_, fun O' H' i hr hi => ?_⟩⟩
        · obtain ⟨xs, h1, h2⟩ := walk O' H' hr
          obtain ⟨x, h3, h4⟩ := h2.get hd
          refine ⟨⟨xs, x, h1, h3⟩, fun y H2 hy => ?_⟩
          obtain ⟨rfl, hy⟩ := hy
          have := hy xs h1
          rw [h3] at this
          cases this
          exact ⟨Same.refl _, h4⟩
        · obtain ⟨xs, h1, h2⟩ := walk O' H' hr
          exact ⟨xs, h1, by rw [h2.length]; exact hi⟩
      | tuple ds =>
        refine .inr (.inl ⟨O, m, rf, ?_⟩)
        rw [hf]
        intro H1 v s1 r1
        have r1' : Rp X.K O H1 v (.tuple ds) := by
          cases l with
          | w => exact r1
          | s => exact r1
          | f => exact absurd rfl hl
        obtain ⟨a, ys, rfl, e1, e2⟩ := rp1_tup (Rp.one r1')
        have walk : ∀ O' H', Rch l O H1 O' H' → ∃ xs, SqT X.K H' a xs ∧ RpAll X.K O' H' xs ds := fun O' H' hr => by
          cases rp_rch r1' (rf.ok.same s1) hr with
          | tup q t => exact ⟨_, .inl (.inl q), t⟩
        refine ⟨a, rfl, ⟨ys, e1⟩, q H1 _ s1 ⟨fun O' H' i d hr hd => ?_, fun O' H' i hr hi => ?_⟩⟩
        · obtain ⟨xs, h1, h2⟩ := walk O' H' hr
          obtain ⟨x, h3, h4⟩ := h2.get hd
          refine ⟨⟨xs, x, h1, h3⟩, fun y H2 hy => ?_⟩
          obtain ⟨rfl, hy⟩ := hy
          have := hy xs h1
          rw [h3] at this
          cases this
          exact ⟨Same.refl _, h4⟩
        · obtain ⟨xs, h1, h2⟩ := walk O' H' hr
          exact ⟨xs, h1, by rw [h2.length]; exact hi⟩
      | str z =>
        refine .inr (.inr ⟨O, m, rf, ?_⟩)
        rw [hf]
        intro H1 v s1 r1
        have r1' : Rp X.K O H1 v (.str z) := by
          cases l with
          | w => exact r1
          | s => exact r1
          | f => exact absurd rfl hl
        cases r1'
        refine ⟨z, rfl, q H1 _ s1 ⟨fun O' H' i d hr hd => ?_, fun O' H' i hr hi => ?_⟩⟩
        · unfold signs at hd
          rw [List.getElem?_map] at hd
          cases hc : z.cps.toList[i]? with
          | none => rw [hc] at hd; cases hd
          | some c =>
            rw [hc] at hd
            cases hd
            have hlt : i < z.cps.size := by have := (List.getElem?_eq_some_iff.mp hc).1; simpa using this
            refine ⟨hlt, fun y H2 hy => ?_⟩
            obtain ⟨rfl, c', h1, rfl⟩ := hy
            have h2 : z.cps.toList[i]? = some c' := by rw [Array.getElem?_toList]; exact h1
            rw [hc] at h2
            cases h2
            exact ⟨Same.refl _, .str _⟩
        · unfold signs at hi
          simpa [Its] using hi
      | none => exact q.elim
      | bool i => exact q.elim
      | int i => exact q.elim
      | dict i => exact q.elim
def irange (lo : Int) (n : Nat) : List D := (List.range n).map fun k : Nat => .int (lo + (k : Int))
def iRng1 (f : E) : EL := fun m => match f m with
  | some (.ok (.int j)) => if -1000000 ≤ j ∧ j ≤ 1000000 then some (.ok (irange 0 j.toNat)) else none
  | some (.exc c) => some (.exc c)
  | _ => none
def two (f g : E) (k : D → D → Option ResL) : EL := fun m => match f m with
  | some (.ok x) => (match g m with
    | some (.ok y) => k x y
    | some (.exc c) => some (.exc c)
    | none => none)
  | some (.exc c) => some (.exc c)
  | none => none
def kRng : D → D → Option ResL
  | .int i, .int j => if (-1000000 ≤ i ∧ i ≤ 1000000) ∧ -1000000 ≤ j ∧ j ≤ 1000000 then some (.ok (irange i (j - i).toNat)) else none
  | _, _ => none
def pairs (xs ys : List D) : List D := (xs.zip ys).map fun z => .tuple [z.1, z.2]
def kZip : D → D → Option ResL
  | .list xs, .list ys => some (.ok (pairs xs ys))
  | .tuple xs, .tuple ys => some (.ok (pairs xs ys))
  | _, _ => none
def numbered (xs : List D) : List D := xs.zipIdx.map fun z => .tuple [.int (z.2 : Int), z.1]
def iEnum' (f : E) : EL := fun m => match f m with
  | some (.ok (.list xs)) => some (.ok (numbered xs))
  | some (.exc c) => some (.exc c)
  | _ => none
theorem wk_rng {K : PySem.W.Frag} {lo : Int} {n : Nat} {R : List Addr → Hp → Prop} : WkR K (Itr lo n) (irange lo n) R := by
  refine ⟨fun O' H' i d hr hd => ?_, fun O' H' i hr hi => ?_⟩
  · unfold irange at hd
    rw [List.getElem?_map] at hd
    cases hc : (List.range n)[i]? with
    | none => rw [hc] at hd; cases hd
    | some k =>
      rw [hc] at hd
      cases hd
      obtain ⟨h1, h2⟩ := List.getElem?_eq_some_iff.mp hc
      rw [List.getElem_range] at h2
      subst h2
      rw [List.length_range] at h1
      refine ⟨h1, fun y H2 hy => ?_⟩
      obtain ⟨rfl, rfl⟩ := hy
      exact ⟨Same.refl _, .int _⟩
  · show n ≤ i
    simpa [irange] using hi
theorem i_rng1 (hg : Gl X "range") (hm : X.mg "range" = none) (ha : JE l1 X W a fa) (hs : starEach [a] X.env = [(false, eval a X.env)] := by rfl) : JI l X W tg (.Call (.Name "range" p) [a] [] pos) (iRng1 fa) := by
  refine ⟨PI.imp (pi_range1 hg hm (pa_cons ha.pe pa_nil hs) hs) ?_⟩
  intro σ H R ⟨O, m, rf, q⟩
  refine ⟨O, m, rf, ?_⟩
  unfold iRng1 at q
  cases hf : fa m with
  | none => rw [hf] at q; exact q.elim
  | some z =>
    rw [hf] at q
    cases z with
    | exc c => exact q
    | ok d =>
      intro H1 v s1 r1
      cases d with
      | int j =>
        dsimp only at q
        by_cases hj : -1000000 ≤ j ∧ j ≤ 1000000
        · rw [if_pos hj] at q
          exact ⟨j, by rw [rp1_int (r1.rp1 rf.ok)], by omega, by omega, q H1 _ s1 wk_rng⟩
        · rw [if_neg hj] at q
          exact q.elim
      | none => exact q.elim
      | bool i => exact q.elim
      | str i => exact q.elim
      | list i => exact q.elim
      | tuple i => exact q.elim
      | dict i => exact q.elim
theorem two_core {k : D → D → Option ResL} {σ : L2.St} {H : Hp} {R : It → Hp → Prop} {P : List V → Hp → Prop} (q : RdI l X W (two fa fb k) σ H R)
    (step : ∀ O m dx dy H1 H2 x y, Ref X O m σ H → Same H H1 → Same H1 H2 → Rv l1 X.K O H H1 x dx → Rv l2 X.K O H1 H2 y dy → (match k dx dy with
      | some (.ok ds) => ∀ H3 J, Same H2 H3 → WkR X.K J ds (Rch l O H3) → R J H3
      | some (.exc c) => ∀ H' C, Same H2 H' → X.mg c = some (.ref C) → W (.ref C) none σ H'
      | none => False) → P [x, y] H2) : tCons (RdE l1 X W fa) (tCons (RdE l2 X W fb) tNil) σ H P := by
  obtain ⟨O, m, rf, q⟩ := q
  refine ⟨O, m, rf, ?_⟩
  unfold two at q
  cases hf : fa m with
  | none => rw [hf] at q; exact q.elim
  | some z =>
    rw [hf] at q
    cases z with
    | exc c => exact q
    | ok dx =>
      intro H1 x s1 r1
      refine ⟨O, m, rf.same s1, ?_⟩
      dsimp only at q
      cases hg : fb m with
      | none => rw [hg] at q; exact q.elim
      | some z =>
        rw [hg] at q
        cases z with
        | exc c => exact fun H' C s2 e => q H' C (s1.trans s2) e
        | ok dy =>
          intro H2 y s2 r2
          refine step O m dx dy H1 H2 x y rf s1 s2 r1 r2 ?_
          dsimp only at q
          cases hk : k dx dy with
          | none => rw [hk] at q; exact q.elim
          | some z =>
            rw [hk] at q
            cases z with
            | exc c => exact fun H' C s3 e => q H' C ((s1.trans s2).trans s3) e
            | ok ds => exact fun H3 J s3 w => q H3 J ((s1.trans s2).trans s3) w
theorem i_rng2 (hg : Gl X "range") (hm : X.mg "range" = none) (ha : JE l1 X W a fa) (hb : JE l2 X W b fb) (hs : starEach [a, b] X.env = [(false, eval a X.env), (false, eval b X.env)] := by rfl) (hs2 : starEach [b] X.env = [(false, eval b X.env)] := by rfl) :
    JI l X W tg (.Call (.Name "range" p) [a, b] [] pos) (two fa fb kRng) := by
  refine ⟨PI.imp (pi_range2 hg hm (pa_cons ha.pe (pa_cons hb.pe pa_nil hs2) (by rw [hs, hs2])) hs hs2) ?_⟩
  intro σ H R q
  refine two_core q fun O m dx dy H1 H2 x y rf s1 s2 r1 r2 q => ?_
  unfold kRng at q
  split at q
  · rename_i ds hk
    split at hk
    · split at hk
      · rename_i i j hj
        cases hk
        exact ⟨i, j, by rw [rp1_int (r1.rp1 rf.ok), rp1_int (r2.rp1 (rf.ok.same s1))], by omega, q H2 _ (Same.refl _) wk_rng⟩
      · cases hk
    · cases hk
  · rename_i c hk
    split at hk
    · split at hk <;> cases hk
    · cases hk
  · exact q.elim
theorem zip_get {xs ys : List D} {i : Nat} {d : D} (h : (pairs xs ys)[i]? = some d) : ∃ x y, xs[i]? = some x ∧ ys[i]? = some y ∧ d = .tuple [x, y] := by
  unfold pairs at h
  rw [List.getElem?_map] at h
  cases hz : (xs.zip ys)[i]? with
  | none => rw [hz] at h; cases h
  | some z =>
    rw [hz] at h
    cases h
    rw [List.getElem?_zip_eq_some] at hz
    exact ⟨z.1, z.2, hz.1, hz.2, rfl⟩
theorem i_zip {elts : List Expr} {kk : Nat} {tpos : Pos} (hg : Gl X "zip") (hm : X.mg "zip" = none) (ha : JE l X W a fa) (hb : JE l X W b fb) (hl : l ≠ .f) (hs : starEach [a, b] X.env = (false, eval a X.env) :: starEach [b] X.env := by rfl)
    (hs2 : starEach [b] X.env = (false, eval b X.env) :: starEach [] X.env := by rfl) (hpl : (backTo pos (starEach [b] X.env)).any (·.1) = false := by rfl) : JI l X W (.Tuple elts kk tpos) (.Call (.Name "zip" p) [a, b] [] pos) (two fa fb kZip) := by
  refine ⟨PI.imp (RZ.pi_zipA hg hm (pa_cons ha.pe (pa_cons hb.pe pa_nil hs2) hs) hs hpl) ?_⟩
  intro σ H R q
  refine two_core q fun O m dx dy H1 H2 x y rf s1 s2 r1 r2 q => ?_
  have ok1 := rf.ok.same s1
  have ok2 := ok1.same s2
  have r1' : Rv l X.K O H H2 x dx := r1.same s2
  unfold kZip at q
  split at q
  · rename_i ds hk
    split at hk
    · rename_i xs ys
      cases hk
      obtain ⟨a1, rfl, ⟨zs, hz⟩, w1⟩ := list_rch r1' hl ok2
      obtain ⟨b1, rfl, ⟨ws, hw⟩, w2⟩ := list_rch r2 hl ok2
      refine ⟨a1, b1, zs, ws, rfl, .inl ⟨hz, hw, q H2 _ (Same.refl _) ⟨fun O' H' i d hr hd => ?_, fun O' H' i hr hi => ?_⟩⟩⟩
      · obtain ⟨x, y, h1, h2, rfl⟩ := zip_get hd
        obtain ⟨us, q1, q2⟩ := w1 O' H' hr
        obtain ⟨ts, q3, q4⟩ := w2 O' H' hr
        obtain ⟨u, g1, g2⟩ := q2.get h1
        obtain ⟨t, g3, g4⟩ := q4.get h2
        refine ⟨⟨us, ts, u, t, q1, q3, g1, g3⟩, fun z H2 hy => ?_⟩
        obtain ⟨T, x', y', rfl, hT, rfl, e1, e2⟩ := hy
        have i1 := e1 us q1
        have i2 := e2 ts q3
        rw [g1] at i1
        rw [g3] at i2
        cases i1
        cases i2
        exact ⟨same_upd hT, .tup upd_same (.cons (g2.same (same_upd hT)) (.cons (g4.same (same_upd hT)) .nil))⟩
      · obtain ⟨us, q1, q2⟩ := w1 O' H' hr
        obtain ⟨ts, q3, q4⟩ := w2 O' H' hr
        refine ⟨us, ts, q1, q3, ?_⟩
        rw [q2.length, q4.length]
        simp only [pairs, List.length_map, List.length_zip] at hi
        omega
    · rename_i xs ys
      cases hk
      have rx : Rp X.K O H2 x (.tuple xs) := by
        cases l with
        | w => exact r1'
        | s => exact r1'
        | f => exact absurd rfl hl
      have ry : Rp X.K O H2 y (.tuple ys) := by
        cases l with
        | w => exact r2
        | s => exact r2
        | f => exact absurd rfl hl
      obtain ⟨a1, zs, rfl, hz, _⟩ := rp1_tup (Rp.one rx)
      obtain ⟨b1, ws, rfl, hw, _⟩ := rp1_tup (Rp.one ry)
      have w1 : ∀ O' H', Rch l O H2 O' H' → ∃ us, SqT X.K H' a1 us ∧ RpAll X.K O' H' us xs := fun O' H' hr => by
        cases rp_rch rx ok2 hr with
        | tup q t => exact ⟨_, .inl (.inl q), t⟩
      have w2 : ∀ O' H', Rch l O H2 O' H' → ∃ us, SqT X.K H' b1 us ∧ RpAll X.K O' H' us ys := fun O' H' hr => by
        cases rp_rch ry ok2 hr with
        | tup q t => exact ⟨_, .inl (.inl q), t⟩
      refine ⟨a1, b1, zs, ws, rfl, .inr ⟨hz, hw, q H2 _ (Same.refl _) ⟨fun O' H' i d hr hd => ?_, fun O' H' i hr hi => ?_⟩⟩⟩
      · obtain ⟨x, y, h1, h2, rfl⟩ := zip_get hd
        obtain ⟨us, q1, q2⟩ := w1 O' H' hr
        obtain ⟨ts, q3, q4⟩ := w2 O' H' hr
        obtain ⟨u, g1, g2⟩ := q2.get h1
        obtain ⟨t, g3, g4⟩ := q4.get h2
        refine ⟨⟨us, ts, u, t, q1, q3, g1, g3⟩, fun z H2 hy => ?_⟩
        obtain ⟨T, x', y', rfl, hT, rfl, e1, e2⟩ := hy
        have i1 := e1 us q1
        have i2 := e2 ts q3
        rw [g1] at i1
        rw [g3] at i2
        cases i1
        cases i2
        exact ⟨same_upd hT, .tup upd_same (.cons (g2.same (same_upd hT)) (.cons (g4.same (same_upd hT)) .nil))⟩
      · obtain ⟨us, q1, q2⟩ := w1 O' H' hr
        obtain ⟨ts, q3, q4⟩ := w2 O' H' hr
        refine ⟨us, ts, q1, q3, ?_⟩
        rw [q2.length, q4.length]
        simp only [pairs, List.length_map, List.length_zip] at hi
        omega
    · cases hk
  · rename_i c hk
    split at hk <;> cases hk
  · exact q.elim
end
end MP

set_option Elab.async false
set_option linter.all false
set_option maxRecDepth 100000
namespace MP
open PySem PySem.Spec PyProof.Rows L2
/-! ### storing into slots -/
theorem getset {α : Type} (l : List α) (i j : Nat) (x : α) : (l.set i x)[j]? = if i = j then (if i < l.length then some x else none) else l[j]? := by
  by_cases h : i = j
  · subst h
    rw [if_pos rfl]
    by_cases hl : i < l.length
    · rw [if_pos hl, List.getElem?_set_self hl]
    · rw [if_neg hl, List.getElem?_eq_none (by simpa using hl)]
  · rw [if_neg h, List.getElem?_set_ne h]
theorem setget {α : Type} {l : List α} {i j : Nat} {x y : α} (h : (l.set i x)[j]? = some y) : (i = j ∧ i < l.length ∧ x = y) ∨ (i ≠ j ∧ l[j]? = some y) := by
  rw [getset] at h
  by_cases hij : i = j
  · rw [if_pos hij] at h
    by_cases hl : i < l.length
    · rw [if_pos hl] at h; cases h; exact .inl ⟨hij, hl, rfl⟩
    · rw [if_neg hl] at h; cases h
  · rw [if_neg hij] at h; exact .inr ⟨hij, h⟩
section
variable {K : PySem.W.Frag} {hd : Option Value} {O O' : List Addr} {m : En} {σ : L2.St} {H H' : Hp}
theorem ownAt_set {m : En} {i j : Nat} {x : Sl} (hx : (∀ ds, x ≠ .own ds) ∧ ∀ ds, x ≠ .odc ds) (h : ownAt (m.set i x) j) : i ≠ j ∧ ownAt m j := by
  rcases h with ⟨ds, h⟩ | ⟨ds, h⟩
  · rcases setget h with ⟨_, _, e⟩ | ⟨n, h⟩
    · exact absurd e (hx.1 ds)
    · exact ⟨n, .inl ⟨ds, h⟩⟩
  · rcases setget h with ⟨_, _, e⟩ | ⟨n, h⟩
    · exact absurd e (hx.2 ds)
    · exact ⟨n, .inr ⟨ds, h⟩⟩
theorem RefK.setD (r : RefK K hd O m σ H) {v : V} {d : D} (h : Rp K O H v d) (i : Nat) : RefK K hd O (m.set i (.dat d)) (σ.set i (some v)) H where
  len := by simp [r.len]
  dat := fun j e q => by
    rcases setget q with ⟨rfl, hl, e1⟩ | ⟨n, q⟩
    · cases e1
      exact ⟨v, by rw [getset, if_pos rfl, if_pos (by rw [r.len]; exact hl)], h⟩
    · obtain ⟨u, h1, h2⟩ := r.dat j e q
      exact ⟨u, by rw [getset, if_neg n]; exact h1, h2⟩
  own := fun j ds q => by
    rcases setget q with ⟨_, _, e1⟩ | ⟨n, q⟩
    · cases e1
    · obtain ⟨a, xs, h1, h2⟩ := r.own j ds q
      exact ⟨a, xs, by rw [getset, if_neg n]; exact h1, h2⟩
  odc := fun j ds q => by
    rcases setget q with ⟨_, _, e1⟩ | ⟨n, q⟩
    · cases e1
    · obtain ⟨a, h1, h2⟩ := r.odc j ds q
      exact ⟨a, by rw [getset, if_neg n]; exact h1, h2⟩
  inj := fun j k a h1 h2 e1 e2 => by
    obtain ⟨n1, h1⟩ := ownAt_set ⟨(fun _ z => by cases z), (fun _ z => by cases z)⟩ h1
    obtain ⟨n2, h2⟩ := ownAt_set ⟨(fun _ z => by cases z), (fun _ z => by cases z)⟩ h2
    rw [getset, if_neg n1] at e1
    rw [getset, if_neg n2] at e2
    exact r.inj j k a h1 h2 e1 e2
  exc := fun j c q => by
    rcases setget q with ⟨_, _, e1⟩ | ⟨n, q⟩
    · cases e1
    · obtain ⟨a, h1, h2⟩ := r.exc j c q
      exact ⟨a, by rw [getset, if_neg n]; exact h1, h2⟩
  ok := r.ok
theorem RefK.unset (r : RefK K hd O m σ H) (i : Nat) (y : Option V) : RefK K hd O (m.set i .un) (σ.set i y) H where
  len := by simp [r.len]
  dat := fun j e q => by
    rcases setget q with ⟨rfl, hl, e1⟩ | ⟨n, q⟩
    · cases e1
    · obtain ⟨u, h1, h2⟩ := r.dat j e q
      exact ⟨u, by rw [getset, if_neg n]; exact h1, h2⟩
  own := fun j ds q => by
    rcases setget q with ⟨_, _, e1⟩ | ⟨n, q⟩
    · cases e1
    · obtain ⟨a, xs, h1, h2⟩ := r.own j ds q
      exact ⟨a, xs, by rw [getset, if_neg n]; exact h1, h2⟩
  odc := fun j ds q => by
    rcases setget q with ⟨_, _, e1⟩ | ⟨n, q⟩
    · cases e1
    · obtain ⟨a, h1, h2⟩ := r.odc j ds q
      exact ⟨a, by rw [getset, if_neg n]; exact h1, h2⟩
  inj := fun j k a h1 h2 e1 e2 => by
    obtain ⟨n1, h1⟩ := ownAt_set ⟨(fun _ z => by cases z), (fun _ z => by cases z)⟩ h1
    obtain ⟨n2, h2⟩ := ownAt_set ⟨(fun _ z => by cases z), (fun _ z => by cases z)⟩ h2
    rw [getset, if_neg n1] at e1
    rw [getset, if_neg n2] at e2
    exact r.inj j k a h1 h2 e1 e2
  exc := fun j c q => by
    rcases setget q with ⟨_, _, e1⟩ | ⟨n, q⟩
    · cases e1
    · obtain ⟨a, h1, h2⟩ := r.exc j c q
      exact ⟨a, by rw [getset, if_neg n]; exact h1, h2⟩
  ok := r.ok
/-- more is our own: what was stands as it was -/
theorem RefK.grow (r : RefK K hd O m σ H) (f : Fr O H O' H') (sub : ∀ a ∈ O, a ∈ O') (keep : ∀ a ∈ O, H' a = H a) (ok' : OwnOk O' H') : RefK K hd O' m σ H' where
  len := r.len
  dat := fun i d h => let ⟨v, a, b⟩ := r.dat i d h; ⟨v, a, b.fr ⟨f, r.ok⟩⟩
  own := fun i ds h => let ⟨a, xs, h1, h2, h3, h4⟩ := r.own i ds h; ⟨a, xs, h1, sub a h2, (keep a h2).trans h3, h4.fr ⟨f, r.ok⟩⟩
  odc := fun i ds h => by
    obtain ⟨a, h1, h2, ⟨kvs, q, t⟩ | ⟨kvs, q, t⟩⟩ := r.odc i ds h
    · exact ⟨a, h1, sub a h2, .inl ⟨kvs, (keep a h2).trans q, t.fr ⟨f, r.ok⟩⟩⟩
    · exact ⟨a, h1, sub a h2, .inr ⟨kvs, (keep a h2).trans q, t.fr ⟨f, r.ok⟩⟩⟩
  inj := r.inj
  exc := r.exc
  ok := ok'
/-- a new list of our own that no slot holds yet -/
theorem RefK.plus (r : RefK K hd O m σ H) {p : Addr} {xs : List V} (hp : H p = none) : RefK K hd (p :: O) m σ (upd H p (.lst xs)) := by
  have hne : ∀ {a o}, H a = some o → a ≠ p := fun h e => by rw [e, hp] at h; cases h
  have hO : ∀ a ∈ O, a ≠ p := fun a ha e => r.ok.fresh hp (e ▸ ha)
  refine r.grow (fun a o h n => ⟨by rw [upd_ne (hne h)]; exact h, fun z => (List.mem_cons.mp z).elim (hne h) n⟩) (fun a ha => List.mem_cons_of_mem _ ha) (fun a ha => upd_ne (hO a ha)) fun a ha => ?_
  rcases List.mem_cons.mp ha with rfl | ha
  · exact .inl ⟨xs, upd_same⟩
  · rw [upd_ne (hO a ha)]
    exact r.ok a ha
def wipeM (m : En) : List Nat → En
  | [] => m
  | v :: vs => (wipeM m vs).set v .un
theorem RefK.wiped (r : RefK K hd O m σ H) : ∀ vs : List Nat, RefK K hd O (wipeM m vs) (wipe σ vs) H
  | [] => r
  | v :: vs => (RefK.wiped r vs).unset v none
end
/-! ### targets -/
inductive Tg where
  | nm (i : Nat)
  | tp (is : List Nat)
def Tg.slots : Tg → List Nat
  | .nm i => [i]
  | .tp is => is
def setAll (m : En) : List Nat → List D → En
  | i :: is, d :: ds => setAll (m.set i (.dat d)) is ds
  | _, _ => m
def setAllV (σ : L2.St) : List Nat → List V → L2.St
  | i :: is, d :: ds => setAllV (σ.set i (some d)) is ds
  | _, _ => σ
def bindT : Tg → D → En → Option En
  | .nm i, d, m => some (m.set i (.dat d))
  | .tp is, .tuple ds, m => if ds.length = is.length then some (setAll m is ds) else none
  | .tp _, _, _ => none
def gNames : List Nat → TGs
  | [] => gNil
  | i :: is => gCons (gName i) (gNames is)
def gT (K : PySem.W.Frag) : Tg → TG
  | .nm i => gName i
  | .tp is => gTup K is.length (gNames is)
theorem wipe_ext {σ τ : L2.St} {vs : List Nat} (hl : σ.length = τ.length) (h : ∀ j, j ∉ vs → σ[j]? = τ[j]?) : wipe σ vs = wipe τ vs := by
  have key : ∀ (vs : List Nat) (ρ : L2.St) (j : Nat), (wipe ρ vs)[j]? = if j ∈ vs then (if j < ρ.length then some none else none) else ρ[j]? := by
    intro vs ρ j
    induction vs with
    | nil => simp [wipe]
    | cons v vs ih =>
      unfold wipe
      rw [getset]
      by_cases hv : v = j
      · subst hv
        simp [wipe_length]
      · rw [if_neg hv, ih]
        have : (j ∈ v :: vs) ↔ j ∈ vs := by
          simp only [List.mem_cons]
          exact ⟨fun h => h.elim (fun e => absurd e.symm hv) id, .inr⟩
        by_cases hj : j ∈ vs
        · rw [if_pos hj, if_pos (this.mpr hj)]
        · rw [if_neg hj, if_neg (fun h => hj (this.mp h))]
  apply List.ext_getElem?
  intro j
  rw [key, key, hl]
  by_cases hj : j ∈ vs
  · rw [if_pos hj, if_pos hj]
  · rw [if_neg hj, if_neg hj, h j hj]
theorem setAllV_get : ∀ (is : List Nat) (xs : List V) (σ : L2.St), (setAllV σ is xs).length = σ.length ∧ ∀ j, j ∉ is → (setAllV σ is xs)[j]? = σ[j]?
  | [], _, σ => ⟨rfl, fun _ _ => rfl⟩
  | _ :: _, [], σ => ⟨rfl, fun _ _ => rfl⟩
  | i :: is, x :: xs, σ => by
    obtain ⟨h1, h2⟩ := setAllV_get is xs (σ.set i (some x))
    refine ⟨by rw [show setAllV σ (i :: is) (x :: xs) = setAllV (σ.set i (some x)) is xs from rfl, h1]; simp, fun j hj => ?_⟩
    simp only [List.mem_cons, not_or] at hj
    rw [show setAllV σ (i :: is) (x :: xs) = setAllV (σ.set i (some x)) is xs from rfl, h2 j hj.2, getset, if_neg (fun e => hj.1 e.symm)]
theorem gNames_ok : ∀ (is : List Nat) (xs : List V) (σ : L2.St) (H : Hp) (Q : L2.St → Hp → Prop), xs.length = is.length → Q (setAllV σ is xs) H → gNames is xs σ H Q
  | [], [], _, _, _, _, h => ⟨rfl, h⟩
  | [], _ :: _, _, _, _, e, _ => by cases e
  | _ :: _, [], _, _, _, e, _ => by cases e
  | i :: is, x :: xs, σ, H, Q, e, h => ⟨x, xs, rfl, gNames_ok is xs _ H Q (by simpa using e) h⟩
theorem RefK.setAll {K : PySem.W.Frag} {hd : Option Value} {O : List Addr} {H : Hp} : ∀ (is : List Nat) (xs : List V) (ds : List D) {m : En} {σ : L2.St}, RefK K hd O m σ H → RpAll K O H xs ds → RefK K hd O (MP.setAll m is ds) (setAllV σ is xs) H
  | [], _, _, _, _, r, _ => r
  | _ :: _, _, _, _, _, r, .nil => r
  | i :: is, x :: xs, d :: ds, m, σ, r, .cons a b => RefK.setAll is xs ds (r.setD a i) b
theorem gT_ok {K : PySem.W.Frag} {hd : Option Value} {O : List Addr} {m m' : En} {σ : L2.St} {H : Hp} {t : Tg} {v : V} {d : D} {Q : L2.St → Hp → Prop} (r : RefK K hd O m σ H) (h : Rp K O H v d) (e : bindT t d m = some m')
    (q : ∀ τ, RefK K hd O m' τ H → τ.length = σ.length → (∀ j, j ∉ t.slots → τ[j]? = σ[j]?) → Q τ H) : gT K t v σ H Q := by
  cases t with
  | nm i =>
    cases e
    exact q _ (r.setD h i) (by simp) fun j hj => by rw [getset, if_neg (fun e => hj (by simp [Tg.slots, e]))]
  | tp is =>
    cases d with
    | tuple ds =>
      have e : (if ds.length = is.length then some (MP.setAll m is ds) else none) = some m' := e
      by_cases hl : ds.length = is.length
      · rw [if_pos hl] at e
        cases e
        obtain ⟨a, xs, rfl, h1, h2⟩ := rp1_tup (Rp.one h)
        have hx : xs.length = is.length := by rw [h2.length]; exact hl
        obtain ⟨g1, g2⟩ := setAllV_get is xs σ
        exact ⟨a, xs, rfl, h1, hx, gNames_ok is xs σ H Q hx (q _ (r.setAll is xs ds h2) g1 g2)⟩
      · rw [if_neg hl] at e
        cases e
    | none => cases e
    | bool b => cases e
    | int b => cases e
    | str b => cases e
    | list b => cases e
    | dict b => cases e
structure JG (X : Cx) (tg : Expr) (t : Tg) : Prop where
  pg : PG X tg (gT X.K t)
structure JGs (X : Cx) (ts : List Expr) (is : List Nat) : Prop where
  pgs : PGs X ts (gNames is)
section
variable {X : Cx} {W : WX} {l l1 l2 l3 : Lv} {tg a b c e elt iter : Expr} {fa fb fc fl : E} {pos p : Pos} {es : List Expr} {fe : EL}
theorem g_name {i : Nat} {x : Str} (hN : X.N.Nodup) (hi : X.N[i]? = some x) (hx : Loc X.env.scope x) (hf : X.fn x = true ∨ X.env.scope.names.lookup x = some .local) : JG X (.Name x pos) (.nm i) := ⟨pg_name hN hi hx hf⟩
theorem gs_nil : JGs X [] [] := ⟨pgs_nil⟩
theorem gs_cons {i : Nat} {is : List Nat} (h : JG X a (.nm i)) (t : JGs X es is) (hs : (assignEach (a :: es) X.env).map (·.2) = assign a X.env :: (assignEach es X.env).map (·.2) := by rfl) : JGs X (a :: es) (i :: is) := ⟨pgs_cons h.pg t.pgs hs⟩
theorem g_tup {k : Nat} {is : List Nat} (hc : X.calm = true) (h : JGs X es is) (hn : (assignEach es X.env).length = is.length := by rfl) (hst : (assignEach es X.env).findIdx? (·.1) = none := by rfl) : JG X (.Tuple es k pos) (.tp is) :=
  ⟨pg_tup hc h.pgs hn hst⟩
/-! ### comprehensions -/
abbrev W0 : WX := fun _ _ _ _ => False
def compGo (t : Tg) (fc fl : E) (m : En) : List D → Option (List D)
  | [] => some []
  | d :: ds => match bindT t d m with
    | none => none
    | some m1 => match fc m1 with
      | some (.ok (.bool true)) => (match fl m1 with
        | some (.ok y) => (match compGo t fc fl m ds with
          | some ys => some (y :: ys)
          | none => none)
        | _ => none)
      | some (.ok (.bool false)) => compGo t fc fl m ds
      | _ => none
def eComp (vs : List Nat) (t : Tg) (fi : EL) (fc fl : E) : E := fun m => match fi m with
  | some (.ok ds) => if ds.length ≤ line then (match compGo t fc fl (wipeM m vs) ds with
    | some ys => some (.ok (.list ys))
    | none => none) else none
  | some (.exc c) => some (.exc c)
  | none => none
/-- tests of a clause -/
structure JTs (X : Cx) (W : WX) (ifs : List Expr) (f : E) : Prop where
  pts : PTs X ifs (RdT X W f)
theorem ts_nil : JTs X W [] (eC (.bool true)) := ⟨⟨fun pins s σ H Q I ⟨O, m, rf, q⟩ => pts_nil.run pins s σ H Q I (q H (Same.refl H))⟩⟩
theorem ts_one (h : JT X W a fa) : JTs X W [a] fa := ⟨pts_one h.pt⟩
theorem comp_core {own : List (Str × Nat)} {t : Tg} {fi : EL} (hv : ∀ i ∈ t.slots, i ∈ own.map (·.2)) {σ : L2.St} {H : Hp} {Q : VK} (h : RdE .f X W (eComp (own.map (·.2)) t fi fc fl) σ H Q) :
    tLc (RdI .w X W fi) (gT X.K t) (RdT X W0 fc) (RdE .s X W0 fl) (own.map (·.2)) σ H Q := by
  obtain ⟨O, m, rf, q⟩ := h
  refine ⟨O, m, rf, ?_⟩
  unfold eComp at q
  cases hf : fi m with
  | none => rw [hf] at q; exact q.elim
  | some z =>
    rw [hf] at q
    cases z with
    | exc c => exact q
    | ok ds =>
      intro H1 J s1 wk
      dsimp only at q
      by_cases hl : ds.length ≤ line
      · rw [if_pos hl] at q
        cases hgo : compGo t fc fl (wipeM m (own.map (·.2))) ds with
        | none => rw [hgo] at q; exact q.elim
        | some total =>
          rw [hgo] at q
          intro Dd hD
          have nO : Dd ∉ O := (rf.ok.same s1).fresh hD
          have rf1 : Ref X (Dd :: O) m σ (upd H1 Dd (.lst [])) := (rf.same s1).plus hD
          refine ⟨fun i n H' => n = ds.length - i ∧ i ≤ ds.length ∧ Same H1 H' ∧ OwnOk (Dd :: O) H' ∧ ∃ acc ys zs, H' Dd = some (.lst acc) ∧ RpAll X.K (Dd :: O) H' acc ys ∧ acc.length ≤ i ∧ compGo t fc fl (wipeM m (own.map (·.2))) (ds.drop i) = some zs ∧ ys ++ zs = total,
            ⟨_, rfl, Nat.zero_le _, same_upd hD, rf1.ok, [], [], total, upd_same, .nil, Nat.le_refl _, hgo, rfl⟩, ?_⟩
          rintro i n H' ⟨rfl, hi, s2, ok2, acc, ys, zs, a1, a2, a3, a4, a5⟩
          have rch : Rch .w O H1 (Dd :: O) H' := ⟨s2, fun a ha => (List.mem_cons.mp ha).elim (fun e => .inr (by rw [e]; exact hD)) .inl⟩
          by_cases hlt : i < ds.length
          · have hd : ds[i]? = some ds[i] := List.getElem?_eq_getElem hlt
            have hdrop : ds.drop i = ds[i] :: ds.drop (i + 1) := List.drop_eq_getElem_cons hlt
            rw [hdrop] at a4
            obtain ⟨go, yl⟩ := wk.1 (Dd :: O) H' i ds[i] rch hd
            refine .inr ⟨go, fun H' => i + 1 ≤ ds.length ∧ Same H1 H' ∧ OwnOk (Dd :: O) H' ∧ ∃ acc ys zs, H' Dd = some (.lst acc) ∧ RpAll X.K (Dd :: O) H' acc ys ∧ acc.length ≤ i + 1 ∧ compGo t fc fl (wipeM m (own.map (·.2))) (ds.drop (i + 1)) = some zs ∧ ys ++ zs = total,
              fun H2 ⟨b1, b2, b3⟩ => ⟨ds.length - (i + 1), by omega, rfl, b1, b2, b3⟩, fun x H2 hy => ?_⟩
            obtain ⟨s3, rx⟩ := yl x H2 hy
            have s12 : Same H1 H2 := s2.trans s3
            have rf2 : Ref X (Dd :: O) m σ H2 := (rf.same s1).grow (fr_ext s12 rch.2) (fun a ha => List.mem_cons_of_mem _ ha) (fun a ha => by
              rcases rf.ok.same s1 a ha with ⟨z, e⟩ | ⟨z, e⟩ | ⟨z, e⟩ <;> rw [e, s12 _ _ e]) (ok2.same s3)
            unfold compGo at a4
            cases hb : bindT t ds[i] (wipeM m (own.map (·.2))) with
            | none => rw [hb] at a4; cases a4
            | some m1 =>
              rw [hb] at a4
              dsimp only at a4
              refine gT_ok (rf2.wiped _) rx hb fun τ rτ lτ gτ => ?_
              refine ⟨?_, ?_⟩
              · have e1 : wipe τ (own.map (·.2)) = wipe (wipe σ (own.map (·.2))) (own.map (·.2)) := wipe_ext lτ fun j hj => gτ j fun hm => hj (hv j hm)
                rw [e1]
                exact wipe_ext (wipe_length _ _) fun j hj => wipe_out hj
              · refine ⟨Dd :: O, m1, rτ, ?_⟩
                cases hcv : fc m1 with
                | none => rw [hcv] at a4; cases a4
                | some zc =>
                  rw [hcv] at a4
                  cases zc with
                  | exc c => cases a4
                  | ok dc =>
                    cases dc with
                    | bool bb =>
                      cases bb with
                      | false =>
                        intro H3 s4
                        exact iteF ⟨hlt, s12.trans s4, (ok2.same s3).same s4, acc, ys, zs, s4 _ _ (s3 _ _ a1), (a2.same s3).same s4, by omega, a4, a5⟩
                      | true =>
                        intro H3 s4
                        refine iteT ⟨Dd :: O, m1, rτ.same s4, ?_⟩
                        dsimp only at a4
                        cases hlv : fl m1 with
                        | none => rw [hlv] at a4; cases a4
                        | some zl =>
                          rw [hlv] at a4
                          cases zl with
                          | exc c => cases a4
                          | ok y =>
                            intro H4 u s5 ru
                            dsimp only at a4
                            cases hrest : compGo t fc fl (wipeM m (own.map (·.2))) (ds.drop (i + 1)) with
                            | none => rw [hrest] at a4; cases a4
                            | some zs' =>
                              rw [hrest] at a4
                              cases a4
                              have s35 : Same H' H4 := (s3.trans s4).trans s5
                              have hD4 : H4 Dd = some (.lst acc) := s35 _ _ a1
                              have ok4 : OwnOk (Dd :: O) H4 := ok2.same s35
                              have frD : FrK X.K (Dd :: O) H4 (Dd :: O) (upd H4 Dd (.lst (acc ++ [u]))) := ⟨fun b ob hb hn => ⟨by rw [upd_ne fun e => hn (by simp [e])]; exact hb, hn⟩, ok4⟩
                              refine ⟨acc, hD4, Nat.lt_of_le_of_lt a3 (Nat.lt_of_le_of_lt hi (line_lt hl)), hlt, fun b ob hb => ?_, fun b hb => ?_, acc ++ [u], ys ++ [y], zs', upd_same, ?_, by simp; omega, rfl, by rw [List.append_assoc]; exact a5⟩
                              · have hne : b ≠ Dd := fun e => by rw [e, hD] at hb; cases hb
                                rw [upd_ne hne]
                                exact (s12.trans (s4.trans s5)) _ _ hb
                              · by_cases e : b = Dd
                                · rw [e]; exact .inl ⟨_, upd_same⟩
                                · rw [upd_ne e]; exact ok4 b hb
                              · exact ((a2.same s35).app (.cons ru .nil)).fr frD
                    | none => cases a4
                    | int i => cases a4
                    | str i => cases a4
                    | list i => cases a4
                    | tuple i => cases a4
                    | dict i => cases a4
          · have e : i = ds.length := by omega
            subst e
            rw [List.drop_length] at a4
            cases a4
            rw [List.append_nil] at a5
            subst a5
            exact .inl ⟨wk.2 (Dd :: O) H' _ rch (Nat.le_refl _), q _ _ (s1.trans s2) ⟨Dd, acc, rfl, s1.free hD, a1, a2⟩⟩
      · rw [if_neg hl] at q
        exact q.elim
theorem j_comp {ifs : List Expr} {scope : Scope} {own : List (Str × Nat)} {t : Tg} {fi : EL} (hc : X.calm = true) (hN : X.N.Nodup) (hi : JI .w X W tg iter fi) (ok : BlkOk X.N X.env.scope scope own) (hv : ∀ i ∈ t.slots, i ∈ own.map (·.2))
    (hg : ∀ (s : Shared) (H : Hp) (C : Addr) (cl : List (Str × Addr)) (fp : List Addr), JG (X.blk s H scope (compEnvC scope cl C X.env) fp) tg t) (ht : ∀ (s : Shared) (H : Hp) (C : Addr) (cl : List (Str × Addr)) (fp : List Addr), JTs (X.blk s H scope (compEnvC scope cl C X.env) fp) W0 ifs fc)
    (he : ∀ (s : Shared) (H : Hp) (C : Addr) (cl : List (Str × Addr)) (fp : List Addr), JE .s (X.blk s H scope (compEnvC scope cl C X.env) fp) W0 elt fl) (hs : ∀ x, foldedSetIterable iter X.env x = pure x := by intro _; rfl) :
    JE .f X W (.ListComp elt [⟨tg, iter, ifs, 0⟩] scope pos) (eComp (own.map (·.2)) t fi fc fl) := by
  exact ⟨PE.imp (pe_lc (g := gT X.K t) (tt := RdT X W0 fc) (te := RdE .s X W0 fl) hc hN hi.pi ok (fun s H C cl fp => (hg s H C cl fp).pg) (fun s H C cl fp => (ht s H C cl fp).pts) (fun s H C cl fp => (he s H C cl fp).pe) hs) fun _ _ _ q => comp_core hv q⟩
end
end MP

set_option Elab.async false
set_option linter.all false
set_option maxRecDepth 100000
namespace MP
open PySem PySem.Spec PyProof.Rows L2
section
variable {X : Cx} {W : WX} {l l1 l2 l3 : Lv} {tg tg1 a b c e elt iter iter1 : Expr} {fa fb fc fl : E} {pos p : Pos} {es : List Expr} {fe fi fi1 : EL}
def comp2Go (vs1 : List Nat) (t t1 : Tg) (fi1 : EL) (fl : E) (m : En) : List D → Option (List D)
  | [] => some []
  | d :: ds => match bindT t d m with
    | none => none
    | some m1 => match fi1 m1 with
      | some (.ok es) => if es.length ≤ 1000 then (match compGo t1 (eC (.bool true)) fl (wipeM m1 vs1) es with
        | some ys => (match comp2Go vs1 t t1 fi1 fl m ds with
          | some zs => some (ys ++ zs)
          | none => none)
        | none => none) else none
      | _ => none
def eComp2 (vs vs1 : List Nat) (t t1 : Tg) (fi fi1 : EL) (fl : E) : E := fun m => match fi m with
  | some (.ok ds) => if ds.length ≤ 1000 then (match comp2Go vs1 t t1 fi1 fl (wipeM m vs) ds with
    | some ys => some (.ok (.list ys))
    | none => none) else none
  | some (.exc c) => some (.exc c)
  | none => none
theorem grow_of {O : List Addr} {m : En} {σ : L2.St} {H1 H2 : Hp} {Dd : Addr} (rf : Ref X O m σ H1) (hD : H1 Dd = none) (s : Same H1 H2) (ok : OwnOk (Dd :: O) H2) : Ref X (Dd :: O) m σ H2 :=
  RefK.grow rf (fr_ext s fun a ha => (List.mem_cons.mp ha).elim (fun e => .inr (by rw [e]; exact hD)) .inl) (fun a ha => List.mem_cons_of_mem _ ha) (fun a ha => by
    rcases rf.ok a ha with ⟨z, e⟩ | ⟨z, e⟩ | ⟨z, e⟩ <;> rw [e, s _ _ e]) ok
/-- what is our own may turn, but for what slots hold -/
theorem RefK.turn {K : PySem.W.Frag} {hd : Option Value} {O : List Addr} {m : En} {σ : L2.St} {H H' : Hp} (r : RefK K hd O m σ H) (f : Fr O H O H') (keep : ∀ i a, ownAt m i → σ[i]? = some (some (.ref a)) → H' a = H a) (ok' : OwnOk O H') : RefK K hd O m σ H' where
  len := r.len
  dat := fun i d h => let ⟨v, a, b⟩ := r.dat i d h; ⟨v, a, b.fr ⟨f, r.ok⟩⟩
  own := fun i ds h => let ⟨a, xs, h1, h2, h3, h4⟩ := r.own i ds h; ⟨a, xs, h1, h2, (keep i a (.inl ⟨ds, h⟩) h1).trans h3, h4.fr ⟨f, r.ok⟩⟩
  odc := fun i ds h => by
    obtain ⟨a, h1, h2, ⟨kvs, q, t⟩ | ⟨kvs, q, t⟩⟩ := r.odc i ds h
    · exact ⟨a, h1, h2, .inl ⟨kvs, (keep i a (.inr ⟨ds, h⟩) h1).trans q, t.fr ⟨f, r.ok⟩⟩⟩
    · exact ⟨a, h1, h2, .inr ⟨kvs, (keep i a (.inr ⟨ds, h⟩) h1).trans q, t.fr ⟨f, r.ok⟩⟩⟩
  inj := r.inj
  exc := r.exc
  ok := ok'
theorem own_wipe {m : En} {i : Nat} : ∀ {vs : List Nat}, ownAt (wipeM m vs) i → ownAt m i ∧ i ∉ vs
  | [], h => ⟨h, fun z => nomatch z⟩
  | v :: vs, h => by
    obtain ⟨n, h⟩ := ownAt_set ⟨(fun _ z => by cases z), (fun _ z => by cases z)⟩ h
    obtain ⟨h1, h2⟩ := own_wipe (vs := vs) h
    exact ⟨h1, fun z => (List.mem_cons.mp z).elim (fun e => n e.symm) h2⟩
theorem own_setAll {i : Nat} : ∀ (is : List Nat) (ds : List D) {m : En}, ds.length = is.length → ownAt (MP.setAll m is ds) i → ownAt m i ∧ i ∉ is
  | [], _, _, _, h => ⟨h, fun z => nomatch z⟩
  | _ :: _, [], _, e, _ => by cases e
  | j :: is, d :: ds, m, e, h => by
    obtain ⟨h1, h2⟩ := own_setAll is ds (m := m.set j (.dat d)) (by simpa using e) h
    obtain ⟨n, h3⟩ := ownAt_set ⟨(fun _ z => by cases z), (fun _ z => by cases z)⟩ h1
    exact ⟨h3, fun z => (List.mem_cons.mp z).elim (fun e => n e.symm) h2⟩
theorem own_bind {t : Tg} {d : D} {m m' : En} {i : Nat} (e : bindT t d m = some m') (h : ownAt m' i) : ownAt m i ∧ i ∉ t.slots := by
  cases t with
  | nm j =>
    cases e
    obtain ⟨n, h⟩ := ownAt_set ⟨(fun _ z => by cases z), (fun _ z => by cases z)⟩ h
    exact ⟨h, fun z => n ((List.mem_singleton.mp z).symm)⟩
  | tp is =>
    cases d with
    | tuple ds =>
      have e : (if ds.length = is.length then some (MP.setAll m is ds) else none) = some m' := e
      by_cases hl : ds.length = is.length
      · rw [if_pos hl] at e
        cases e
        exact own_setAll is ds hl h
      · rw [if_neg hl] at e
        cases e
    | none => cases e
    | bool b => cases e
    | int b => cases e
    | str b => cases e
    | list b => cases e
    | dict b => cases e
theorem compGo_len {t : Tg} {fc fl : E} {m : En} : ∀ {ds ys : List D}, compGo t fc fl m ds = some ys → ys.length ≤ ds.length
  | [], ys, h => by cases h; exact Nat.le_refl _
  | d :: ds, ys, h => by
    unfold compGo at h
    split at h
    · cases h
    · split at h
      · split at h
        · split at h
          · rename_i hz
            cases h
            have := compGo_len hz
            simp only [List.length_cons]
            omega
          · cases h
        · cases h
      · have := compGo_len h
        simp only [List.length_cons]
        omega
      · cases h
theorem comp2_core {own : List (Str × Nat)} {vs1 : List Nat} {t t1 : Tg} (hv : ∀ i ∈ t.slots, i ∈ own.map (·.2)) (hv1 : ∀ i ∈ vs1, i ∈ own.map (·.2)) (ht1 : ∀ i ∈ t1.slots, i ∈ vs1) {σ : L2.St} {H : Hp} {Q : VK} (h : RdE .f X W (eComp2 (own.map (·.2)) vs1 t t1 fi fi1 fl) σ H Q) :
    tLc2 (RdI .w X W fi) (gT X.K t) tYes (RdI .s X W0 fi1) (gT X.K t1) tYes (RdE .s X W0 fl) (own.map (·.2)) vs1 σ H Q := by
  obtain ⟨O, m, rf, q⟩ := h
  refine ⟨O, m, rf, ?_⟩
  unfold eComp2 at q
  cases hf : fi m with
  | none => rw [hf] at q; exact q.elim
  | some z =>
    rw [hf] at q
    cases z with
    | exc c => exact q
    | ok ds =>
      intro H1 J s1 wk
      dsimp only at q
      by_cases hl : ds.length ≤ 1000
      · rw [if_pos hl] at q
        generalize hvs : own.map (·.2) = vs at *
        cases hgo : comp2Go vs1 t t1 fi1 fl (wipeM m vs) ds with
        | none => rw [hgo] at q; exact q.elim
        | some total =>
          rw [hgo] at q
          intro Dd hD
          have rf1 : Ref X O m σ H1 := rf.same s1
          refine ⟨fun i n H' => n = ds.length - i ∧ i ≤ ds.length ∧ Same H1 H' ∧ OwnOk (Dd :: O) H' ∧ ∃ acc ys zs, H' Dd = some (.lst acc) ∧ RpAll X.K (Dd :: O) H' acc ys ∧ acc.length ≤ i * 1000 ∧ comp2Go vs1 t t1 fi1 fl (wipeM m vs) (ds.drop i) = some zs ∧ ys ++ zs = total,
            ⟨_, rfl, Nat.zero_le _, same_upd hD, (rf1.plus hD).ok, [], [], total, upd_same, .nil, Nat.le_refl _, hgo, rfl⟩, ?_⟩
          rintro i n H' ⟨rfl, hi, s2, ok2, acc, ys, zs, a1, a2, a3, a4, a5⟩
          have rch : Rch .w O H1 (Dd :: O) H' := ⟨s2, fun a ha => (List.mem_cons.mp ha).elim (fun e => .inr (by rw [e]; exact hD)) .inl⟩
          by_cases hlt : i < ds.length
          · have hd : ds[i]? = some ds[i] := List.getElem?_eq_getElem hlt
            have hdrop : ds.drop i = ds[i] :: ds.drop (i + 1) := List.drop_eq_getElem_cons hlt
            rw [hdrop] at a4
            obtain ⟨go, yl⟩ := wk.1 (Dd :: O) H' i ds[i] rch hd
            refine .inr ⟨go, fun H' => i + 1 ≤ ds.length ∧ Same H1 H' ∧ OwnOk (Dd :: O) H' ∧ ∃ acc ys zs, H' Dd = some (.lst acc) ∧ RpAll X.K (Dd :: O) H' acc ys ∧ acc.length ≤ (i + 1) * 1000 ∧ comp2Go vs1 t t1 fi1 fl (wipeM m vs) (ds.drop (i + 1)) = some zs ∧ ys ++ zs = total,
              fun H2 ⟨b1, b2, b3⟩ => ⟨ds.length - (i + 1), by omega, rfl, b1, b2, b3⟩, fun x H2 hy => ?_⟩
            obtain ⟨s3, rx⟩ := yl x H2 hy
            have s12 : Same H1 H2 := s2.trans s3
            have rf2 : Ref X (Dd :: O) m σ H2 := grow_of rf1 hD s12 (ok2.same s3)
            unfold comp2Go at a4
            cases hb : bindT t ds[i] (wipeM m vs) with
            | none => rw [hb] at a4; cases a4
            | some m1 =>
              rw [hb] at a4
              dsimp only at a4
              refine gT_ok (rf2.wiped _) rx hb fun τ rτ lτ gτ => ⟨?_, ?_⟩
              · have e1 : wipe τ vs = wipe (wipe σ vs) vs := wipe_ext lτ fun j hj => gτ j fun hm => hj (hv j hm)
                rw [e1]
                exact wipe_ext (wipe_length _ _) fun j hj => wipe_out hj
              · dsimp only [tYes]
                rw [if_pos rfl]
                refine ⟨Dd :: O, m1, rτ, ?_⟩
                cases hf1 : fi1 m1 with
                | none => rw [hf1] at a4; cases a4
                | some z1 =>
                  rw [hf1] at a4
                  cases z1 with
                  | exc c => cases a4
                  | ok es =>
                    intro H4 J1 s4 wk1
                    dsimp only at a4
                    by_cases hes : es.length ≤ 1000
                    · rw [if_pos hes] at a4
                      cases hin : compGo t1 (eC (.bool true)) fl (wipeM m1 vs1) es with
                      | none => rw [hin] at a4; cases a4
                      | some tot1 =>
                        rw [hin] at a4
                        dsimp only at a4
                        cases hout : comp2Go vs1 t t1 fi1 fl (wipeM m vs) (ds.drop (i + 1)) with
                        | none => rw [hout] at a4; cases a4
                        | some zs' =>
                          rw [hout] at a4
                          cases a4
                          have s34 : Same H' H4 := s3.trans s4
                          have ok4 : OwnOk (Dd :: O) H4 := ok2.same s34
                          -- the inner loop
                          refine ⟨fun j k H5 => k = es.length - j ∧ j ≤ es.length ∧ Same H1 H5 ∧ (∀ b o, b ≠ Dd → H4 b = some o → H5 b = some o) ∧ OwnOk (Dd :: O) H5 ∧ ∃ acc ys zs, H5 Dd = some (.lst acc) ∧ RpAll X.K (Dd :: O) H5 acc ys ∧ acc.length ≤ i * 1000 + j ∧ compGo t1 (eC (.bool true)) fl (wipeM m1 vs1) (es.drop j) = some zs ∧ ys ++ zs ++ zs' = total,
                            ⟨_, rfl, Nat.zero_le _, s12.trans s4, fun _ _ _ h => h, ok4, acc, ys, tot1, s34 _ _ a1, a2.same s34, by omega, hin, by rw [List.append_assoc]; exact a5⟩, ?_⟩
                          rintro j k H5 ⟨rfl, hj, s5, k5, ok5, acc5, ys5, zs5, b1, b2, b3, b4, b5⟩
                          have fr5 : Fr (Dd :: O) H4 (Dd :: O) H5 := fun b o hb hn => ⟨k5 b o (fun e => hn (by simp [e])) hb, hn⟩
                          have rch1 : Rch .s (Dd :: O) H4 (Dd :: O) H5 := fr5
                          by_cases hjl : j < es.length
                          · have hd5 : es[j]? = some es[j] := List.getElem?_eq_getElem hjl
                            have hdrop5 : es.drop j = es[j] :: es.drop (j + 1) := List.drop_eq_getElem_cons hjl
                            rw [hdrop5] at b4
                            obtain ⟨go1, yl1⟩ := wk1.1 (Dd :: O) H5 j es[j] rch1 hd5
                            refine .inr ⟨go1, fun H5 => j + 1 ≤ es.length ∧ Same H1 H5 ∧ (∀ b o, b ≠ Dd → H4 b = some o → H5 b = some o) ∧ OwnOk (Dd :: O) H5 ∧ ∃ acc ys zs, H5 Dd = some (.lst acc) ∧ RpAll X.K (Dd :: O) H5 acc ys ∧ acc.length ≤ i * 1000 + (j + 1) ∧ compGo t1 (eC (.bool true)) fl (wipeM m1 vs1) (es.drop (j + 1)) = some zs ∧ ys ++ zs ++ zs' = total,
                              fun H6 ⟨c1, c2, c3⟩ => ⟨es.length - (j + 1), by omega, rfl, c1, c2, c3⟩, fun x H6 hy => ?_⟩
                            obtain ⟨s6, rx6⟩ := yl1 x H6 hy
                            unfold compGo at b4
                            cases hb1 : bindT t1 es[j] (wipeM m1 vs1) with
                            | none => rw [hb1] at b4; cases b4
                            | some m2 =>
                              rw [hb1] at b4
                              dsimp only [eC] at b4
                              have rτ6 : Ref X (Dd :: O) m1 τ H6 := by
                                have r4 : Ref X (Dd :: O) m1 τ H4 := rτ.same s4
                                have nO : Dd ∉ O := rf1.ok.fresh hD
                                refine r4.turn (fun b o hb hn => ⟨s6 _ _ (fr5 b o hb hn).1, hn⟩) (fun i' a' ho he => ?_) (ok5.same s6)
                                obtain ⟨g1, g2⟩ := own_bind hb ho
                                obtain ⟨g3, g4⟩ := own_wipe g1
                                rw [gτ i' g2, wipe_out g4] at he
                                have hO : a' ∈ O ∧ ∃ o, H1 a' = some o := by
                                  rcases g3 with ⟨z, hz⟩ | ⟨z, hz⟩
                                  · obtain ⟨a2, _, e1, e2, e3, _⟩ := rf1.own i' z hz
                                    rw [he] at e1; cases e1
                                    exact ⟨e2, _, e3⟩
                                  · obtain ⟨a2, e1, e2, ⟨_, e3, _⟩ | ⟨_, e3, _⟩⟩ := rf1.odc i' z hz
                                    · rw [he] at e1; cases e1
                                      exact ⟨e2, _, e3⟩
                                    · rw [he] at e1; cases e1
                                      exact ⟨e2, _, e3⟩
                                obtain ⟨hO, o, ho1⟩ := hO
                                rw [s6 _ _ (s5 _ _ ho1), (s12.trans s4) _ _ ho1]
                              refine gT_ok (rτ6.wiped _) rx6 hb1 fun ρ rρ lρ gρ => ⟨?_, ?_⟩
                              · have e1 : wipe ρ vs1 = wipe (wipe τ vs1) vs1 := wipe_ext lρ fun j hj => gρ j fun hm => hj (ht1 j hm)
                                rw [e1]
                                exact wipe_ext (wipe_length _ _) fun j hj => wipe_out hj
                              · dsimp only [tYes]
                                rw [if_pos rfl]
                                refine ⟨Dd :: O, m2, rρ, ?_⟩
                                cases hlv : fl m2 with
                                | none => rw [hlv] at b4; cases b4
                                | some zl =>
                                  rw [hlv] at b4
                                  cases zl with
                                  | exc c => cases b4
                                  | ok y =>
                                    intro H7 u s7 ru
                                    dsimp only at b4
                                    cases hrest : compGo t1 (eC (.bool true)) fl (wipeM m1 vs1) (es.drop (j + 1)) with
                                    | none =>
                                      rw [hrest] at b4
                                      cases b4
                                    | some zs6 =>
                                      rw [hrest] at b4
                                      cases b4
                                      have s57 : Same H5 H7 := s6.trans s7
                                      have hD7 : H7 Dd = some (.lst acc5) := s57 _ _ b1
                                      have ok7 : OwnOk (Dd :: O) H7 := ok5.same s57
                                      have frD : FrK X.K (Dd :: O) H7 (Dd :: O) (upd H7 Dd (.lst (acc5 ++ [u]))) := ⟨fun b ob hb hn => ⟨by rw [upd_ne fun e => hn (by simp [e])]; exact hb, hn⟩, ok7⟩
                                      refine ⟨acc5, hD7, ?_, hjl, fun b ob hb => ?_, fun b ob hne hb => ?_, fun b hb => ?_, acc5 ++ [u], ys5 ++ [y], zs6, upd_same, ((b2.same s57).app (.cons ru .nil)).fr frD, by simp; omega, rfl, by rw [← b5]; simp⟩
                                      · have : i * 1000 ≤ 1000 * 1000 := Nat.mul_le_mul (by omega) (Nat.le_refl _)
                                        rw [sizeLine_eq]
                                        omega
                                      · have hne : b ≠ Dd := fun e => by rw [e, hD] at hb; cases hb
                                        rw [upd_ne hne]
                                        exact s57 _ _ (s5 _ _ hb)
                                      · rw [upd_ne hne]
                                        exact s57 _ _ (k5 b ob hne hb)
                                      · by_cases e : b = Dd
                                        · rw [e]; exact .inl ⟨_, upd_same⟩
                                        · rw [upd_ne e]; exact ok7 b hb
                          · have e : j = es.length := by omega
                            subst e
                            rw [List.drop_length] at b4
                            cases b4
                            rw [List.append_nil] at b5
                            refine .inl ⟨wk1.2 (Dd :: O) H5 _ rch1 (Nat.le_refl _), hlt, s5, ok5, acc5, ys5, zs', b1, b2, by omega, rfl, b5⟩
                    · rw [if_neg hes] at a4
                      cases a4
          · have e : i = ds.length := by omega
            subst e
            rw [List.drop_length] at a4
            cases a4
            rw [List.append_nil] at a5
            subst a5
            exact .inl ⟨wk.2 (Dd :: O) H' _ rch (Nat.le_refl _), q _ _ (s1.trans s2) ⟨Dd, acc, rfl, s1.free hD, a1, a2⟩⟩
      · rw [if_neg hl] at q
        exact q.elim
theorem j_comp2 {scope : Scope} {own : List (Str × Nat)} {vs1 : List Nat} {t t1 : Tg} (hc : X.calm = true) (hN : X.N.Nodup) (hi : JI .w X W tg iter fi) (ok : BlkOk X.N X.env.scope scope own) (hv : ∀ i ∈ t.slots, i ∈ own.map (·.2)) (hv1 : ∀ i ∈ vs1, i ∈ own.map (·.2)) (ht1 : ∀ i ∈ t1.slots, i ∈ vs1)
    (hg : ∀ (s : Shared) (H : Hp) (C : Addr) (cl : List (Str × Addr)) (fp : List Addr), JG (X.blk s H scope (compEnvC scope cl C X.env) fp) tg t)
    (hi1 : ∀ (s : Shared) (H : Hp) (C : Addr) (cl : List (Str × Addr)) (fp : List Addr), JI .s (X.blk s H scope (compEnvC scope cl C X.env) fp) W0 tg1 iter1 fi1)
    (hg1 : ∀ (s : Shared) (H : Hp) (C : Addr) (cl : List (Str × Addr)) (fp : List Addr), JG (X.blk s H scope (compEnvC scope cl C X.env) fp) tg1 t1)
    (he : ∀ (s : Shared) (H : Hp) (C : Addr) (cl : List (Str × Addr)) (fp : List Addr), JE .s (X.blk s H scope (compEnvC scope cl C X.env) fp) W0 elt fl) (hs : ∀ x, foldedSetIterable iter X.env x = pure x := by intro _; rfl) (hs1 : ∀ env x, foldedSetIterable iter1 env x = pure x := by intro _ _; rfl) :
    JE .f X W (.ListComp elt [⟨tg, iter, [], 0⟩, ⟨tg1, iter1, [], 0⟩] scope pos) (eComp2 (own.map (·.2)) vs1 t t1 fi fi1 fl) := by
  exact ⟨PE.imp (pe_lc2 (g := gT X.K t) (tt := tYes) (wi1 := RdI .s X W0 fi1) (g1 := gT X.K t1) (tt1 := tYes) (te := RdE .s X W0 fl) hc hN hi.pi ok hv1 (fun s H C cl fp => (hg s H C cl fp).pg) (fun s H C cl fp => pts_nil)
    (fun s H C cl fp => (hi1 s H C cl fp).pi) (fun s H C cl fp => (hg1 s H C cl fp).pg) (fun s H C cl fp => pts_nil) (fun s H C cl fp => (he s H C cl fp).pe) hs hs1) fun _ _ _ q => comp2_core hv hv1 ht1 q⟩
end
end MP

set_option Elab.async false
set_option linter.all false
set_option maxRecDepth 100000
namespace MP
open PySem PySem.Spec PyProof.Rows L2
/-! ### the state of a def's body. F: the lists of the callers' own; O: those and ours -/
structure RefT (K : PySem.W.Frag) (hd : Option Value) (H0 : Hp) (F O : List Addr) (m : En) (σ : L2.St) (H : Hp) : Prop where
  r : RefK K hd O m σ H
  sm : Same H0 H
  ent : ∀ a ∈ O, a ∉ F → H0 a = none
  sub : ∀ a ∈ F, a ∈ O
  okF : OwnOk F H0
  mine : ∀ (i : Nat) (a : Addr), ownAt m i → σ[i]? = some (some (.ref a)) → a ∉ F
abbrev RefS (X : Cx) (F O : List Addr) (m : En) (σ : L2.St) (H : Hp) : Prop := RefT X.K X.A.handled X.H_0 F O m σ H
section
variable {X : Cx} {W : WX} {F O O' : List Addr} {m m' : En} {σ σ' : L2.St} {H H' : Hp}
theorem RefT.same (r : RefS X F O m σ H) (e : Same H H') : RefS X F O m σ H' := ⟨r.r.same e, r.sm.trans e, r.ent, r.sub, r.okF, r.mine⟩
theorem RefT.setD (r : RefS X F O m σ H) {v : V} {d : D} (h : Rp X.K O H v d) (i : Nat) : RefS X F O (m.set i (.dat d)) (σ.set i (some v)) H :=
  ⟨r.r.setD h i, r.sm, r.ent, r.sub, r.okF, fun j a ho e => by
    obtain ⟨n, ho⟩ := ownAt_set ⟨(fun _ z => by cases z), (fun _ z => by cases z)⟩ ho
    rw [getset, if_neg n] at e
    exact r.mine j a ho e⟩
theorem RefT.unset (r : RefS X F O m σ H) (i : Nat) (y : Option V) : RefS X F O (m.set i .un) (σ.set i y) H :=
  ⟨r.r.unset i y, r.sm, r.ent, r.sub, r.okF, fun j a ho e => by
    obtain ⟨n, ho⟩ := ownAt_set ⟨(fun _ z => by cases z), (fun _ z => by cases z)⟩ ho
    rw [getset, if_neg n] at e
    exact r.mine j a ho e⟩
/-- a list of our own that no slot holds comes into a slot -/
theorem RefT.setO (r : RefS X F O m σ H) {a : Addr} {xs : List V} {ds : List D} (hO : a ∈ O) (hF : a ∉ F) (ha : H a = some (.lst xs)) (hx : RpAll X.K O H xs ds) (fre : ∀ j, ownAt m j → σ[j]? ≠ some (some (.ref a))) (i : Nat) :
    RefS X F O (m.set i (.own ds)) (σ.set i (some (.ref a))) H := by
  have own_or : ∀ j, ownAt (m.set i (.own ds)) j → (i = j ∧ i < m.length) ∨ (i ≠ j ∧ ownAt m j) := fun j h => by
    rcases h with ⟨es, h⟩ | ⟨es, h⟩
    · rcases setget h with ⟨e, hl, _⟩ | ⟨n, h⟩
      · exact .inl ⟨e, hl⟩
      · exact .inr ⟨n, .inl ⟨es, h⟩⟩
    · rcases setget h with ⟨e, hl, z⟩ | ⟨n, h⟩
      · cases z
      · exact .inr ⟨n, .inr ⟨es, h⟩⟩
  refine ⟨⟨by simp [r.r.len], fun j e q => ?_, fun j es q => ?_, fun j es q => ?_, fun j k b h1 h2 e1 e2 => ?_, fun j c q => ?_, r.r.ok⟩, r.sm, r.ent, r.sub, r.okF, fun j b ho e => ?_⟩
  · rcases setget q with ⟨_, _, z⟩ | ⟨n, q⟩
    · cases z
    · obtain ⟨u, h1, h2⟩ := r.r.dat j e q
      exact ⟨u, by rw [getset, if_neg n]; exact h1, h2⟩
  · rcases setget q with ⟨rfl, hl, z⟩ | ⟨n, q⟩
    · cases z
      exact ⟨a, xs, by rw [getset, if_pos rfl, if_pos (by rw [r.r.len]; exact hl)], hO, ha, hx⟩
    · obtain ⟨b, ys, h1, h2⟩ := r.r.own j es q
      exact ⟨b, ys, by rw [getset, if_neg n]; exact h1, h2⟩
  · rcases setget q with ⟨_, _, z⟩ | ⟨n, q⟩
    · cases z
    · obtain ⟨b, h1, h2⟩ := r.r.odc j es q
      exact ⟨b, by rw [getset, if_neg n]; exact h1, h2⟩
  · rcases own_or j h1 with ⟨rfl, l1⟩ | ⟨n1, o1⟩
    · rcases own_or k h2 with ⟨rfl, l2⟩ | ⟨n2, o2⟩
      · rfl
      · rw [getset, if_pos rfl, if_pos (by rw [r.r.len]; exact l1)] at e1
        cases e1
        rw [getset, if_neg n2] at e2
        exact absurd e2 (fre k o2)
    · rcases own_or k h2 with ⟨rfl, l2⟩ | ⟨n2, o2⟩
      · rw [getset, if_pos rfl, if_pos (by rw [r.r.len]; exact l2)] at e2
        cases e2
        rw [getset, if_neg n1] at e1
        exact absurd e1 (fre j o1)
      · rw [getset, if_neg n1] at e1
        rw [getset, if_neg n2] at e2
        exact r.r.inj j k b o1 o2 e1 e2
  · rcases setget q with ⟨_, _, z⟩ | ⟨n, q⟩
    · cases z
    · obtain ⟨b, h1, h2⟩ := r.r.exc j c q
      exact ⟨b, by rw [getset, if_neg n]; exact h1, h2⟩
  · rcases own_or j ho with ⟨rfl, l1⟩ | ⟨n1, o1⟩
    · rw [getset, if_pos rfl, if_pos (by rw [r.r.len]; exact l1)] at e
      cases e
      exact hF
    · rw [getset, if_neg n1] at e
      exact r.mine j b o1 e
/-- the same for a dict -/
theorem RefT.setC (r : RefS X F O m σ H) {a : Addr} {ds : List (D × D)} (hO : a ∈ O) (hF : a ∉ F) (ha : (∃ kvs, H a = some (.dK kvs) ∧ RpK X.K O H kvs ds) ∨ ∃ kvs, H a = some (.dT kvs) ∧ RpT X.K O H kvs ds) (fre : ∀ j, ownAt m j → σ[j]? ≠ some (some (.ref a))) (i : Nat) :
    RefS X F O (m.set i (.odc ds)) (σ.set i (some (.ref a))) H := by
  have own_or : ∀ j, ownAt (m.set i (.odc ds)) j → (i = j ∧ i < m.length) ∨ (i ≠ j ∧ ownAt m j) := fun j h => by
    rcases h with ⟨es, h⟩ | ⟨es, h⟩
    · rcases setget h with ⟨e, hl, z⟩ | ⟨n, h⟩
      · cases z
      · exact .inr ⟨n, .inl ⟨es, h⟩⟩
    · rcases setget h with ⟨e, hl, z⟩ | ⟨n, h⟩
      · exact .inl ⟨e, hl⟩
      · exact .inr ⟨n, .inr ⟨es, h⟩⟩
  refine ⟨⟨by simp [r.r.len], fun j e q => ?_, fun j es q => ?_, fun j es q => ?_, fun j k b h1 h2 e1 e2 => ?_, fun j c q => ?_, r.r.ok⟩, r.sm, r.ent, r.sub, r.okF, fun j b ho e => ?_⟩
  · rcases setget q with ⟨_, _, z⟩ | ⟨n, q⟩
    · cases z
    · obtain ⟨u, h1, h2⟩ := r.r.dat j e q
      exact ⟨u, by rw [getset, if_neg n]; exact h1, h2⟩
  · rcases setget q with ⟨_, _, z⟩ | ⟨n, q⟩
    · cases z
    · obtain ⟨b, ys, h1, h2⟩ := r.r.own j es q
      exact ⟨b, ys, by rw [getset, if_neg n]; exact h1, h2⟩
  · rcases setget q with ⟨rfl, hl, z⟩ | ⟨n, q⟩
    · cases z
      exact ⟨a, by rw [getset, if_pos rfl, if_pos (by rw [r.r.len]; exact hl)], hO, ha⟩
    · obtain ⟨b, h1, h2⟩ := r.r.odc j es q
      exact ⟨b, by rw [getset, if_neg n]; exact h1, h2⟩
  · rcases own_or j h1 with ⟨rfl, l1⟩ | ⟨n1, o1⟩
    · rcases own_or k h2 with ⟨rfl, l2⟩ | ⟨n2, o2⟩
      · rfl
      · rw [getset, if_pos rfl, if_pos (by rw [r.r.len]; exact l1)] at e1
        cases e1
        rw [getset, if_neg n2] at e2
        exact absurd e2 (fre k o2)
    · rcases own_or k h2 with ⟨rfl, l2⟩ | ⟨n2, o2⟩
      · rw [getset, if_pos rfl, if_pos (by rw [r.r.len]; exact l2)] at e2
        cases e2
        rw [getset, if_neg n1] at e1
        exact absurd e1 (fre j o1)
      · rw [getset, if_neg n1] at e1
        rw [getset, if_neg n2] at e2
        exact r.r.inj j k b o1 o2 e1 e2
  · rcases setget q with ⟨_, _, z⟩ | ⟨n, q⟩
    · cases z
    · obtain ⟨b, h1, h2⟩ := r.r.exc j c q
      exact ⟨b, by rw [getset, if_neg n]; exact h1, h2⟩
  · rcases own_or j ho with ⟨rfl, l1⟩ | ⟨n1, o1⟩
    · rw [getset, if_pos rfl, if_pos (by rw [r.r.len]; exact l1)] at e
      cases e
      exact hF
    · rw [getset, if_neg n1] at e
      exact r.mine j b o1 e
/-- an object of ours that a slot holds is changed -/
theorem RefT.chg (r : RefS X F O m σ H) {a : Addr} {o : HO} (i : Nat) (ho : ownAt m i) (hs : σ[i]? = some (some (.ref a))) (hO : a ∈ O) (hl : (∃ xs, o = .lst xs) ∨ (∃ kvs, o = .dK kvs) ∨ ∃ kvs, o = .dT kvs) :
    RefS X F O (m.set i .un) σ (upd H a o) ∧ Fr O H O (upd H a o) ∧ ∀ j, ownAt (m.set i .un) j → σ[j]? ≠ some (some (.ref a)) := by
  have hF : a ∉ F := r.mine i a ho hs
  have hi : i < σ.length := (List.getElem?_eq_some_iff.mp hs).1
  have es : σ.set i (some (.ref a)) = σ := by
    apply List.ext_getElem?
    intro j
    rw [getset]
    by_cases e : i = j
    · subst e; rw [if_pos rfl, if_pos hi, hs]
    · rw [if_neg e]
  have f : Fr O H O (upd H a o) := fun b u hb hn => by
    have hne : b ≠ a := fun e => hn (by rw [e]; exact hO)
    exact ⟨by rw [upd_ne hne]; exact hb, hn⟩
  have fre : ∀ j, ownAt (m.set i .un) j → σ[j]? ≠ some (some (.ref a)) := fun j hj e => by
    obtain ⟨n, hj⟩ := ownAt_set ⟨(fun _ z => by cases z), (fun _ z => by cases z)⟩ hj
    exact n (r.r.inj i j a ho hj hs e)
  have r1 : RefS X F O (m.set i .un) σ H := by
    have q := r.unset i (some (.ref a))
    rw [es] at q
    exact q
  refine ⟨⟨r1.r.turn f (fun j b hj e => upd_ne fun z => fre j hj (z ▸ e)) fun b hb => ?_, fun b u hb => ?_, r.ent, r.sub, r.okF, r1.mine⟩, f, fre⟩
  · by_cases e : b = a
    · rw [e]
      rcases hl with ⟨xs, rfl⟩ | ⟨kvs, rfl⟩ | ⟨kvs, rfl⟩
      · exact .inl ⟨xs, upd_same⟩
      · exact .inr (.inl ⟨kvs, upd_same⟩)
      · exact .inr (.inr ⟨kvs, upd_same⟩)
    · rw [upd_ne e]; exact r.r.ok b hb
  · have hne : b ≠ a := fun e => by
      rw [e, r.ent a hO hF] at hb
      cases hb
    rw [upd_ne hne]
    exact r.sm _ _ hb
theorem set_un_set (m : En) (i : Nat) (x : Sl) : (m.set i .un).set i x = m.set i x := by rw [List.set_set]
/-- what is new is ours -/
theorem RefT.grow (r : RefS X F O m σ H) (e : Same H H') {a : Addr} {o : HO} (h0 : H a = none) (ha : H' a = some o) (hl : (∃ xs, o = .lst xs) ∨ (∃ kvs, o = .dK kvs) ∨ ∃ kvs, o = .dT kvs) : RefS X F (a :: O) m σ H' ∧ Fr O H (a :: O) H' ∧ (∀ j, ownAt m j → σ[j]? ≠ some (some (.ref a))) ∧ a ∉ F := by
  have nO : a ∉ O := r.r.ok.fresh h0
  have f : Fr O H (a :: O) H' := fr_ext e fun b hb => (List.mem_cons.mp hb).elim (fun z => .inr (z ▸ h0)) .inl
  have n0 : X.H_0 a = none := r.sm.free h0
  have nF : a ∉ F := r.okF.fresh n0
  have ok' : OwnOk (a :: O) H' := fun b hb => by
    rcases List.mem_cons.mp hb with rfl | hb
    · rcases hl with ⟨xs, rfl⟩ | ⟨kvs, rfl⟩ | ⟨kvs, rfl⟩
      · exact .inl ⟨xs, ha⟩
      · exact .inr (.inl ⟨kvs, ha⟩)
      · exact .inr (.inr ⟨kvs, ha⟩)
    · exact r.r.ok.same e b hb
  refine ⟨⟨r.r.grow f (fun b hb => List.mem_cons_of_mem _ hb) (fun b hb => ?_) ok', r.sm.trans e, fun b hb hn => ?_, fun b hb => List.mem_cons_of_mem _ (r.sub b hb), r.okF, r.mine⟩, f, fun j hj z => ?_, nF⟩
  · rcases r.r.ok b hb with ⟨z, q⟩ | ⟨z, q⟩ | ⟨z, q⟩ <;> rw [q, e _ _ q]
  · rcases List.mem_cons.mp hb with rfl | hb
    · exact n0
    · exact r.ent b hb hn
  · rcases hj with ⟨ds, hj⟩ | ⟨ds, hj⟩
    · obtain ⟨b, _, e1, e2, _⟩ := r.r.own j ds hj
      rw [z] at e1; cases e1
      exact nO e2
    · obtain ⟨b, e1, e2, _⟩ := r.r.odc j ds hj
      rw [z] at e1; cases e1
      exact nO e2
/-- a list of our own is given away: from now on it stays as it is -/
def frz (j : Nat) (m : En) : En := match m[j]? with
  | some (.own ds) => m.set j (.dat (.list ds))
  | _ => m
theorem RefT.less (r : RefS X F O m σ H) {a : Addr} {v : V} {d : D} {i : Nat} (ho : ownAt m i) (hs : σ[i]? = some (some (.ref a))) (hd : Rp X.K (O.filter fun b => decide (b ≠ a)) H (.ref a) d) :
    RefS X F (O.filter fun b => decide (b ≠ a)) (m.set i (.dat d)) σ H ∧ Fr O H (O.filter fun b => decide (b ≠ a)) H := by
  have mem : ∀ b, b ∈ O.filter (fun b => decide (b ≠ a)) ↔ b ∈ O ∧ b ≠ a := fun b => by simp [List.mem_filter]
  have sub : ∀ b ∈ O.filter (fun b => decide (b ≠ a)), b ∈ O := fun b hb => ((mem b).mp hb).1
  have hi : i < σ.length := (List.getElem?_eq_some_iff.mp hs).1
  have es : σ.set i (some (.ref a)) = σ := by
    apply List.ext_getElem?
    intro j
    rw [getset]
    by_cases e : i = j
    · subst e; rw [if_pos rfl, if_pos hi, hs]
    · rw [if_neg e]
  have ne : ∀ j b, i ≠ j → ownAt m j → σ[j]? = some (some (.ref b)) → b ≠ a := fun j b n hj e z => n (r.r.inj i j a ho hj hs (z ▸ e))
  have r1 : RefK X.K X.A.handled (O.filter fun b => decide (b ≠ a)) (m.set i .un) (σ.set i (some (.ref a))) H := by
    refine ⟨by simp [r.r.len], fun j e q => ?_, fun j es' q => ?_, fun j es' q => ?_, (r.r.unset i (some (.ref a))).inj, (r.r.unset i (some (.ref a))).exc, fun b hb => r.r.ok b (sub b hb)⟩
    · obtain ⟨v, h1, h2⟩ := (r.r.unset i (some (.ref a))).dat j e q
      exact ⟨v, h1, h2.sub sub⟩
    · rcases setget q with ⟨_, _, z⟩ | ⟨n, q⟩
      · cases z
      · obtain ⟨b, ys, h1, h2, h3, h4⟩ := r.r.own j es' q
        exact ⟨b, ys, by rw [getset, if_neg n]; exact h1, (mem b).mpr ⟨h2, ne j b n (.inl ⟨_, q⟩) h1⟩, h3, h4.sub sub⟩
    · rcases setget q with ⟨_, _, z⟩ | ⟨n, q⟩
      · cases z
      · obtain ⟨b, h1, h2, h3⟩ := r.r.odc j es' q
        refine ⟨b, by rw [getset, if_neg n]; exact h1, (mem b).mpr ⟨h2, ne j b n (.inr ⟨_, q⟩) h1⟩, ?_⟩
        rcases h3 with ⟨kvs, h3, h4⟩ | ⟨kvs, h3, h4⟩
        · exact .inl ⟨kvs, h3, h4.sub sub⟩
        · exact .inr ⟨kvs, h3, h4.sub sub⟩
  have r2 := r1.setD hd i
  rw [set_un_set, List.set_set, es] at r2
  have hF : a ∉ F := r.mine i a ho hs
  refine ⟨⟨r2, r.sm, fun b hb hn => r.ent b (sub b hb) hn, fun b hb => (mem b).mpr ⟨r.sub b hb, fun z => hF (z ▸ hb)⟩, r.okF, fun j b hj e => ?_⟩, fun b u hb hn => ⟨hb, fun z => hn (sub b z)⟩⟩
  obtain ⟨n, hj⟩ := ownAt_set ⟨(fun _ z => by cases z), (fun _ z => by cases z)⟩ hj
  exact r.mine j b hj e
theorem RefT.frz (r : RefS X F O m σ H) (j : Nat) : ∃ O', RefS X F O' (MP.frz j m) σ H ∧ Fr O H O' H := by
  unfold MP.frz
  have sub : ∀ (a : Addr), ∀ b ∈ O.filter (fun b => decide (b ≠ a)), b ∈ O := fun a b hb => (List.mem_filter.mp hb).1
  have nin : ∀ (a : Addr), a ∉ O.filter (fun b => decide (b ≠ a)) := fun a h => by simp [List.mem_filter] at h
  cases hm : m[j]? with
  | none => exact ⟨O, r, Fr.refl⟩
  | some z =>
    cases z with
    | own ds =>
      obtain ⟨a, xs, h1, h2, h3, h4⟩ := r.r.own j ds hm
      exact ⟨_, r.less (v := .ref a) (.inl ⟨_, hm⟩) h1 (.lst (.inl ⟨.inl h3, nin a⟩) (h4.sub (sub a)))⟩
    | odc ds => exact ⟨O, r, Fr.refl⟩
    | un => exact ⟨O, r, Fr.refl⟩
    | dat d => exact ⟨O, r, Fr.refl⟩
    | exc c => exact ⟨O, r, Fr.refl⟩
end
end MP

set_option Elab.async false
set_option linter.all false
set_option maxRecDepth 100000
namespace MP
open PySem PySem.Spec PyProof.Rows L2
/-- what is wanted behind a statement, by what it comes to -/
def Post (X : Cx) (W : WX) (F O : List Addr) (H : Hp) (D : Ends) : Option Out → Prop
  | some (.nx m') => ∀ O' σ' H', RefS X F O' m' σ' H' → Fr O H O' H' → D.nx σ' H'
  | some (.rt d) => ∀ v H', Same X.H_0 H' → Rp X.K F H' v d → D.rt v H'
  | some (.exc c m') => ∀ O' σ' H' C, RefS X F O' m' σ' H' → Fr O H O' H' → X.mg c = some (.ref C) → W (.ref C) none σ' H'
  | some (.bk m') => ∀ O' σ' H', RefS X F O' m' σ' H' → Fr O H O' H' → D.bk σ' H'
  | some (.ct m') => ∀ O' σ' H', RefS X F O' m' σ' H' → Fr O H O' H' → D.ct σ' H'
  | none => False
def RdS (X : Cx) (W : WX) (F : List Addr) (f : S) : TS := fun D σ H => ∃ O m, RefS X F O m σ H ∧ Post X W F O H D (f m)
structure JS (X : Cx) (W : WX) (F : List Addr) (st : Stmt) (f : S) : Prop where
  ps : PS X st (RdS X W F f)
structure JSs (X : Cx) (W : WX) (F : List Addr) (st : List Stmt) (f : S) : Prop where
  pss : PSs X st (RdS X W F f)
section
variable {X : Cx} {W : WX} {F : List Addr} {l l1 l2 l3 : Lv} {a b c e : Expr} {fa fb fc : E} {f g : S} {pos p : Pos} {st : Stmt} {rest : List Stmt} {es : List Expr} {fe : EL}
theorem Post.fr {O O1 : List Addr} {H H1 : Hp} {D : Ends} {o : Option Out} (h : Post X W F O H D o) (q : Fr O H O1 H1) : Post X W F O1 H1 D o := by
  cases o with
  | none => exact h
  | some z =>
    cases z with
    | nx m => exact fun O' σ' H' r t => h O' σ' H' r (q.trans t)
    | rt d => exact h
    | exc c m => exact fun O' σ' H' C r t => h O' σ' H' C r (q.trans t)
    | bk m => exact fun O' σ' H' r t => h O' σ' H' r (q.trans t)
    | ct m => exact fun O' σ' H' r t => h O' σ' H' r (q.trans t)
def sSkip : S := fun m => some (.nx m)
def sSeq (f g : S) : S := fun m => match f m with
  | some (.nx m') => g m'
  | o => o
theorem ss_nil : JSs X W F [] sSkip := ⟨PSs.imp pss_nil fun D σ H ⟨O, m, r, q⟩ => q O σ H r Fr.refl⟩
theorem ss_cons (h1 : JS X W F st f) (h2 : JSs X W F rest g) : JSs X W F (st :: rest) (sSeq f g) := by
  refine ⟨PSs.imp (pss_cons h1.ps h2.pss) ?_⟩
  intro D σ H ⟨O, m, r, q⟩
  refine ⟨O, m, r, ?_⟩
  unfold sSeq at q
  cases hf : f m with
  | none => rw [hf] at q; exact q
  | some z =>
    rw [hf] at q
    cases z with
    | nx m1 => exact fun O1 σ1 H1 r1 t1 => ⟨O1, m1, r1, q.fr t1⟩
    | rt d => exact q
    | exc c m1 => exact q
    | bk m1 => exact q
    | ct m1 => exact q
theorem s_pass : JS X W F (.Pass pos) sSkip := ⟨PS.imp ps_pass fun D σ H ⟨O, m, r, q⟩ => q O σ H r Fr.refl⟩
def sBrk : S := fun m => some (.bk m)
def sCnt : S := fun m => some (.ct m)
theorem s_break : JS X W F (.Break pos) sBrk := ⟨PS.imp ps_break fun D σ H ⟨O, m, r, q⟩ => q O σ H r Fr.refl⟩
theorem s_cont : JS X W F (.Continue pos) sCnt := ⟨PS.imp ps_continue fun D σ H ⟨O, m, r, q⟩ => q O σ H r Fr.refl⟩
def bndS (x : Option Res) (m : En) (k : MP.D → Option Out) : Option Out := match x with
  | some (.ok d) => k d
  | some (.exc c) => some (.exc c m)
  | none => none
theorem rdS {D : Ends} {O : List Addr} {m : En} {σ : L2.St} {H : Hp} {k : MP.D → Option Out} {P : VK} (r : RefS X F O m σ H) (q : Post X W F O H D (bndS (fa m) m k))
    (step : ∀ d H1 v, Same H H1 → Rv l X.K O H H1 v d → Post X W F O H1 D (k d) → P v H1) : RdE l X W fa σ H P := by
  refine ⟨O, m, r.r, ?_⟩
  unfold bndS at q
  cases hf : fa m with
  | none => rw [hf] at q; exact q
  | some z =>
    rw [hf] at q
    cases z with
    | exc c => exact fun H1 C e1 e2 => q O σ H1 C (r.same e1) (Fr.of_same e1) e2
    | ok d => exact fun H1 v e1 e2 => step d H1 v e1 e2 (q.fr (Fr.of_same e1))
theorem rdST {D : Ends} {O : List Addr} {m : En} {σ : L2.St} {H : Hp} {k : MP.D → Option Out} {P : Bool → Hp → Prop} (r : RefS X F O m σ H) (q : Post X W F O H D (bndS (fa m) m k)) (hk : ∀ d, (∀ b, d ≠ PyData.bool b) → k d = none)
    (step : ∀ b H1, Same H H1 → Post X W F O H1 D (k (.bool b)) → P b H1) : RdT X W fa σ H P := by
  refine ⟨O, m, r.r, ?_⟩
  unfold bndS at q
  cases hf : fa m with
  | none => rw [hf] at q; exact q
  | some z =>
    rw [hf] at q
    cases z with
    | exc c => exact fun H1 C e1 e2 => q O σ H1 C (r.same e1) (Fr.of_same e1) e2
    | ok d =>
      have no : ∀ d, (∀ b, d ≠ PyData.bool b) → Post X W F O H D (k d) → False := fun d h q => by rw [hk d h] at q; exact q
      cases d with
      | bool b => exact fun H1 e1 => step b H1 e1 (q.fr (Fr.of_same e1))
      | none => exact no _ (fun _ z => by cases z) q
      | int i => exact no _ (fun _ z => by cases z) q
      | str x => exact no _ (fun _ z => by cases z) q
      | list xs => exact no _ (fun _ z => by cases z) q
      | tuple xs => exact no _ (fun _ z => by cases z) q
      | dict xs => exact no _ (fun _ z => by cases z) q
def sExpr (f : E) : S := fun m => bndS (f m) m fun _ => some (.nx m)
theorem s_expr (he : JE l X W e fa) (hs : swapsWith e none pos.line X.env = pure false := by rfl) : JS X W F (.Expr e pos) (sExpr fa) := by
  refine ⟨PS.imp (ps_expr he.pe hs) ?_⟩
  intro D σ H ⟨O, m, r, q⟩
  exact rdS r q fun d H1 v s1 _ q => q O σ H1 (r.same s1) Fr.refl
def sRet (f : E) : S := fun m => bndS (f m) m fun d => some (.rt d)
theorem s_ret (he : JE .s X W e fa) : JS X W F (.Return (some e) pos) (sRet fa) := by
  refine ⟨PS.imp (ps_ret he.pe) ?_⟩
  intro D σ H ⟨O, m, r, q⟩
  exact rdS r q fun d H1 v s1 rv q => q v H1 (r.sm.trans s1) (Rp.sub rv r.sub)
def sRetV (i : Nat) : S := fun m => match m[i]? with
  | some (.dat d) => some (.rt d)
  | some (.own ds) => some (.rt (.list ds))
  | _ => none
theorem s_retV {i : Nat} {x : Str} (hN : X.N[i]? = some x) (hv : Vis X.env.scope x) (hd : (x == ("__debug__" : Str)) = false := by decide) (hcd : (x == ("__classdict__" : Str)) = false := by decide) : JS X W F (.Return (some (.Name x p)) pos) (sRetV i) := by
  refine ⟨PS.imp (ps_ret (pe_var hN hv hd hcd)) ?_⟩
  intro D σ H ⟨O, m, r, q⟩
  unfold sRetV at q
  cases hm : m[i]? with
  | none => rw [hm] at q; exact q.elim
  | some z =>
    rw [hm] at q
    cases z with
    | un => exact q.elim
    | exc c => exact q.elim
    | dat d =>
      obtain ⟨v, e1, e2⟩ := r.r.dat i d hm
      exact ⟨v, e1, q v H r.sm (e2.sub r.sub)⟩
    | own ds =>
      obtain ⟨a, xs, e1, e2, e3, e4⟩ := r.r.own i ds hm
      exact ⟨.ref a, e1, q _ H r.sm (.lst (.inl ⟨.inl e3, r.mine i a (.inl ⟨_, hm⟩) e1⟩) (e4.sub r.sub))⟩
    | odc ds => exact q.elim
def sRetN : S := fun _ => some (.rt .none)
theorem s_retN : JS X W F (.Return none pos) sRetN := ⟨PS.imp ps_retN fun D σ H ⟨O, m, r, q⟩ => q .non H r.sm .non⟩
def sIf (c : E) (f g : S) : S := fun m => bndS (c m) m fun d => match d with
  | .bool true => f m
  | .bool false => g m
  | _ => none
theorem s_if {xs ys : List Stmt} (hc : JT X W c fc) (h1 : JSs X W F xs f) (h2 : JSs X W F ys g) : JS X W F (.If c xs ys pos) (sIf fc f g) := by
  refine ⟨PS.imp (ps_if hc.pt h1.pss h2.pss) ?_⟩
  intro D σ H ⟨O, m, r, q⟩
  refine rdST r q (fun d h => ?_) fun b H1 s1 q => ?_
  · cases d with
    | bool b => exact absurd rfl (h b)
    | _ => rfl
  · cases b with
    | true => exact iteT ⟨O, m, r.same s1, q⟩
    | false => exact iteF ⟨O, m, r.same s1, q⟩
/-! ### name = e -/
def sAsg (i : Nat) (f : E) : S := fun m => bndS (f m) m fun d => some (.nx (m.set i (.dat d)))
theorem asg_core {i : Nat} {D : Ends} {σ : L2.St} {H : Hp} (q : RdS X W F (sAsg i fa) D σ H) : RdE .s X W fa σ H (fun x H1 => gName i x σ H1 D.nx) := by
  obtain ⟨O, m, r, q⟩ := q
  exact rdS r q fun d H1 v s1 rv q => q O _ H1 ((r.same s1).setD rv i) Fr.refl
theorem s_asg {i : Nat} {x : Str} {p' : Pos} (hN : X.N.Nodup) (hi : X.N[i]? = some x) (hx : Loc X.env.scope x) (he : JE .s X W e fa) (hf : X.fn x = true ∨ X.env.scope.names.lookup x = some .local) (hs : swapsWith e (some (.Name x p')) pos.line X.env = pure false := by rfl) : JS X W F (.Assign [.Name x p'] e pos) (sAsg i fa) :=
  ⟨PS.imp (ps_set hN hi hx he.pe hs hf) fun _ _ _ q => asg_core q⟩
def ownSl : MP.D → Sl
  | .list ds => .own ds
  | d => .dat d
def sOwn (i : Nat) (f : E) : S := fun m => bndS (f m) m fun d => some (.nx (m.set i (ownSl d)))
/-- a new list or dict comes into a slot -/
theorem own_set {O : List Addr} {m : En} {σ : L2.St} {H H1 : Hp} {v : V} {d : MP.D} (r : RefS X F O m σ H) (s1 : Same H H1) (h : Rf X.K O H H1 v d) (i : Nat) : ∃ O', RefS X F O' (m.set i (ownSl d)) (σ.set i (some v)) H1 ∧ Fr O H O' H1 := by
  cases d with
  | list ds =>
    obtain ⟨a, xs, rfl, h0, h1, h2⟩ := h
    obtain ⟨r1, f1, n1, nF⟩ := r.grow s1 h0 h1 (.inl ⟨xs, rfl⟩)
    exact ⟨_, r1.setO List.mem_cons_self nF h1 h2 n1 i, f1⟩
  | dict ds => exact ⟨O, (r.same s1).setD (show Rp X.K O H1 v (.dict ds) from h) i, Fr.of_same s1⟩
  | none => exact ⟨O, (r.same s1).setD (show Rp X.K O H1 v .none from h) i, Fr.of_same s1⟩
  | bool b => exact ⟨O, (r.same s1).setD (show Rp X.K O H1 v (.bool b) from h) i, Fr.of_same s1⟩
  | int b => exact ⟨O, (r.same s1).setD (show Rp X.K O H1 v (.int b) from h) i, Fr.of_same s1⟩
  | str b => exact ⟨O, (r.same s1).setD (show Rp X.K O H1 v (.str b) from h) i, Fr.of_same s1⟩
  | tuple b => exact ⟨O, (r.same s1).setD (show Rp X.K O H1 v (.tuple b) from h) i, Fr.of_same s1⟩
theorem own_core {i : Nat} {D : Ends} {σ : L2.St} {H : Hp} (q : RdS X W F (sOwn i fa) D σ H) : RdE .f X W fa σ H (fun x H1 => gName i x σ H1 D.nx) := by
  obtain ⟨O, m, r, q⟩ := q
  refine ⟨O, m, r.r, ?_⟩
  unfold sOwn bndS at q
  cases hf : fa m with
  | none => rw [hf] at q; exact q
  | some z =>
    rw [hf] at q
    cases z with
    | exc c => exact fun H1 C e1 e2 => q O σ H1 C (r.same e1) (Fr.of_same e1) e2
    | ok d =>
      intro H1 v s1 rv
      obtain ⟨O', r1, f1⟩ := own_set r s1 rv i
      exact q O' _ H1 r1 f1
theorem s_own {i : Nat} {x : Str} {p' : Pos} (hN : X.N.Nodup) (hi : X.N[i]? = some x) (hx : Loc X.env.scope x) (he : JE .f X W e fa) (hf : X.fn x = true ∨ X.env.scope.names.lookup x = some .local) (hs : swapsWith e (some (.Name x p')) pos.line X.env = pure false := by rfl) : JS X W F (.Assign [.Name x p'] e pos) (sOwn i fa) :=
  ⟨PS.imp (ps_set hN hi hx he.pe hs hf) fun _ _ _ q => own_core q⟩
/-! ### name = [..] on one line -/
section
variable {tg elt iter : Expr} {fl : E} {fi : EL} {ifs : List Expr} {scope : Scope} {own : List (Str × Nat)} {t : Tg} {x : Str} {py spos : Pos} {i : Nat}
theorem s_ownLc (hc : X.calm = true) (hN : X.N.Nodup) (hy : X.N[i]? = some x) (hyl : X.env.scope.names.lookup x = some .local)
    (hsw : swapsWith (.ListComp elt [⟨tg, iter, ifs, 0⟩] scope pos) (some (.Name x py)) spos.line X.env = pure true) (hi : JI .w X W tg iter fi) (ok : BlkOk X.N X.env.scope scope own) (hv : ∀ i ∈ t.slots, i ∈ own.map (·.2))
    (hg : ∀ (s : Shared) (H : Hp) (C : Addr) (cl : List (Str × Addr)) (fp : List Addr), JG (X.blk s H scope (compEnvC scope cl C X.env) fp) tg t) (ht : ∀ (s : Shared) (H : Hp) (C : Addr) (cl : List (Str × Addr)) (fp : List Addr), JTs (X.blk s H scope (compEnvC scope cl C X.env) fp) W0 ifs fc)
    (he : ∀ (s : Shared) (H : Hp) (C : Addr) (cl : List (Str × Addr)) (fp : List Addr), JE .s (X.blk s H scope (compEnvC scope cl C X.env) fp) W0 elt fl) (hs : ∀ x, foldedSetIterable iter X.env x = pure x := by intro _; rfl) :
    JS X W F (.Assign [.Name x py] (.ListComp elt [⟨tg, iter, ifs, 0⟩] scope pos) spos) (sOwn i (eComp (own.map (·.2)) t fi fc fl)) :=
  ⟨PS.imp (ps_setLc (g := gT X.K t) (tt := RdT X W0 fc) (te := RdE .s X W0 fl) hc hN hy hyl hsw hi.pi ok (fun s H C cl fp => (hg s H C cl fp).pg) (fun s H C cl fp => (ht s H C cl fp).pts) (fun s H C cl fp => (he s H C cl fp).pe) hs) fun _ _ _ q => comp_core hv (own_core q)⟩
theorem lift_s {i : Nat} {D : Ends} {σ : L2.St} {H : Hp} (q : RdE .s X W fa σ H (fun x H1 => gName i x σ H1 D.nx)) : RdE .f X W fa σ H (fun x H1 => gName i x σ H1 D.nx) := by
  obtain ⟨O, m, r, q⟩ := q
  refine ⟨O, m, r, ?_⟩
  cases hf : fa m with
  | none => rw [hf] at q; exact q
  | some z =>
    rw [hf] at q
    cases z with
    | exc c => exact q
    | ok d => exact fun H1 v s1 rv => q H1 v s1 (Rf.rp rv r.ok)
theorem s_asgLc (hc : X.calm = true) (hN : X.N.Nodup) (hy : X.N[i]? = some x) (hyl : X.env.scope.names.lookup x = some .local)
    (hsw : swapsWith (.ListComp elt [⟨tg, iter, ifs, 0⟩] scope pos) (some (.Name x py)) spos.line X.env = pure true) (hi : JI .w X W tg iter fi) (ok : BlkOk X.N X.env.scope scope own) (hv : ∀ i ∈ t.slots, i ∈ own.map (·.2))
    (hg : ∀ (s : Shared) (H : Hp) (C : Addr) (cl : List (Str × Addr)) (fp : List Addr), JG (X.blk s H scope (compEnvC scope cl C X.env) fp) tg t) (ht : ∀ (s : Shared) (H : Hp) (C : Addr) (cl : List (Str × Addr)) (fp : List Addr), JTs (X.blk s H scope (compEnvC scope cl C X.env) fp) W0 ifs fc)
    (he : ∀ (s : Shared) (H : Hp) (C : Addr) (cl : List (Str × Addr)) (fp : List Addr), JE .s (X.blk s H scope (compEnvC scope cl C X.env) fp) W0 elt fl) (hs : ∀ x, foldedSetIterable iter X.env x = pure x := by intro _; rfl) :
    JS X W F (.Assign [.Name x py] (.ListComp elt [⟨tg, iter, ifs, 0⟩] scope pos) spos) (sAsg i (eComp (own.map (·.2)) t fi fc fl)) :=
  ⟨PS.imp (ps_setLc (g := gT X.K t) (tt := RdT X W0 fc) (te := RdE .s X W0 fl) hc hN hy hyl hsw hi.pi ok (fun s H C cl fp => (hg s H C cl fp).pg) (fun s H C cl fp => (ht s H C cl fp).pts) (fun s H C cl fp => (he s H C cl fp).pe) hs) fun _ _ _ q => comp_core hv (lift_s (asg_core q))⟩
end
/-! ### a list of our own is given away ahead of a statement -/
def sFrz (j : Nat) (f : S) : S := fun m => f (frz j m)
theorem s_frz (j : Nat) (h : JS X W F st f) : JS X W F st (sFrz j f) := by
  refine ⟨PS.imp h.ps ?_⟩
  intro D σ H ⟨O, m, r, q⟩
  obtain ⟨O', r', f'⟩ := r.frz j
  exact ⟨O', _, r', Post.fr q f'⟩
/-! ### x.append(e), x.extend(e) -/
def sApp (i : Nat) (f : E) : S := fun m => match m[i]? with
  | some (.own ds) => bndS (f m) m fun d => if ds.length < line then some (.nx (m.set i (.own (ds ++ [d])))) else none
  | _ => none
theorem s_app {i : Nat} {x : Str} {p1 p2 : Pos} (hN : X.N[i]? = some x) (hv : Vis X.env.scope x) (he : JE .s X W e fa) (hd : (x == ("__debug__" : Str)) = false := by decide) (hcd : (x == ("__classdict__" : Str)) = false := by decide)
    (hbase : attributeBase (.Name x p) "append" X.env (eval (.Name x p) X.env) = eval (.Name x p) X.env := by rfl)
    (hfew : ((backTo p2 (starEach [e] X.env)).all (fun x => !x.1) && (backToKw p2 (keywordEach [] X.env)).all (fun x => x.1.isSome) && decide ([e].length + ([] : List Keyword).length + (if ([] : List Keyword).isEmpty then 0 else 1) < 30)) = true := by rfl)
    (hline : (p1.endLine == p2.line) = true := by rfl) (hs : starEach [e] X.env = (false, eval e X.env) :: starEach [] X.env := by rfl)
    (hsw : swapsWith (.Call (.Attribute (.Name x p) "append" p1) [e] [] p2) none pos.line X.env = pure false := by rfl) :
    JS X W F (.Expr (.Call (.Attribute (.Name x p) "append" p1) [e] [] p2) pos) (sApp i fa) := by
  refine ⟨PS.imp (ps_expr (pe_bm PySem.F.plainAttrs_list PySem.F.slot_list_append PySem.F.type_list_append mt_append (pe_var hN hv hd hcd) (pa_cons he.pe pa_nil hs) hbase hfew hline hs rfl) hsw) ?_⟩
  intro D σ H ⟨O, m, r, q⟩
  unfold sApp at q
  cases hm : m[i]? with
  | none => rw [hm] at q; exact q.elim
  | some z =>
    rw [hm] at q
    cases z with
    | own ds =>
      obtain ⟨a, xs, e1, e2, e3, e4⟩ := r.r.own i ds hm
      refine ⟨.ref a, e1, .inl ⟨rfl, xs, .inl (.inl e3)⟩, rdS r q fun d H1 v s1 rv q => ?_⟩
      by_cases hl : ds.length < line
      · rw [if_pos hl] at q
        have h1 : H1 a = some (.lst xs) := s1 _ _ e3
        refine ⟨a, xs, v, rfl, rfl, h1, by rw [e4.length]; exact line_lt (Nat.le_of_lt hl), ?_⟩
        have r1 := r.same s1
        obtain ⟨r2, f2, fre⟩ := r1.chg (o := .lst (xs ++ [v])) i (.inl ⟨_, hm⟩) e1 e2 (.inl ⟨_, rfl⟩)
        have hx : RpAll X.K O (upd H1 a (.lst (xs ++ [v]))) (xs ++ [v]) (ds ++ [d]) := ((e4.same s1).app (.cons rv .nil)).fr ⟨f2, r1.r.ok⟩
        have r3 := r2.setO e2 (r.mine i a (.inl ⟨_, hm⟩) e1) upd_same hx fre i
        have es : σ.set i (some (.ref a)) = σ := by
          apply List.ext_getElem?
          intro j
          rw [getset]
          by_cases e : i = j
          · subst e; rw [if_pos rfl, if_pos (List.getElem?_eq_some_iff.mp e1).1, e1]
          · rw [if_neg e]
        rw [set_un_set, es] at r3
        exact q O σ _ r3 f2
      · rw [if_neg hl] at q
        exact q.elim
    | un => exact q.elim
    | exc c => exact q.elim
    | dat d => exact q.elim
    | odc d => exact q.elim
def sExt (i : Nat) (f : E) : S := fun m => match m[i]? with
  | some (.own ds) => bndS (f m) m fun d => match d with
    | .list es => if ds.length + es.length < line then some (.nx (m.set i (.own (ds ++ es)))) else none
    | _ => none
  | _ => none
theorem s_ext {i : Nat} {x : Str} {p1 p2 : Pos} (hN : X.N[i]? = some x) (hv : Vis X.env.scope x) (he : JE .f X W e fa) (hd : (x == ("__debug__" : Str)) = false := by decide) (hcd : (x == ("__classdict__" : Str)) = false := by decide)
    (hbase : attributeBase (.Name x p) "extend" X.env (eval (.Name x p) X.env) = eval (.Name x p) X.env := by rfl)
    (hfew : ((backTo p2 (starEach [e] X.env)).all (fun x => !x.1) && (backToKw p2 (keywordEach [] X.env)).all (fun x => x.1.isSome) && decide ([e].length + ([] : List Keyword).length + (if ([] : List Keyword).isEmpty then 0 else 1) < 30)) = true := by rfl)
    (hline : (p1.endLine == p2.line) = true := by rfl) (hs : starEach [e] X.env = (false, eval e X.env) :: starEach [] X.env := by rfl)
    (hsw : swapsWith (.Call (.Attribute (.Name x p) "extend" p1) [e] [] p2) none pos.line X.env = pure false := by rfl) :
    JS X W F (.Expr (.Call (.Attribute (.Name x p) "extend" p1) [e] [] p2) pos) (sExt i fa) := by
  refine ⟨PS.imp (ps_expr (pe_bm PySem.F.plainAttrs_list PySem.F.slot_list_extend PySem.F.type_list_extend mt_extend (pe_var hN hv hd hcd) (pa_cons he.pe pa_nil hs) hbase hfew hline hs rfl) hsw) ?_⟩
  intro D σ H ⟨O, m, r, q⟩
  unfold sExt at q
  cases hm : m[i]? with
  | none => rw [hm] at q; exact q.elim
  | some z =>
    rw [hm] at q
    cases z with
    | own ds =>
      obtain ⟨a, xs, e1, e2, e3, e4⟩ := r.r.own i ds hm
      refine ⟨.ref a, e1, .inl ⟨rfl, xs, .inl (.inl e3)⟩, rdS r q fun d H1 v s1 rv q => ?_⟩
      cases d with
      | list es' =>
        dsimp only at q
        by_cases hl : ds.length + es'.length < line
        · rw [if_pos hl] at q
          obtain ⟨b, zs, rfl, b0, b1, b2⟩ := rv
          have h1 : H1 a = some (.lst xs) := s1 _ _ e3
          have b3 : RpAll X.K O H1 zs es' := b2.sub fun c hc => List.mem_cons_of_mem _ hc
          refine ⟨a, b, xs, zs, rfl, rfl, h1, b1, by rw [e4.length, b3.length]; exact line_le (Nat.le_of_lt hl), ?_⟩
          have r1 := r.same s1
          obtain ⟨r2, f2, fre⟩ := r1.chg (o := .lst (xs ++ zs)) i (.inl ⟨_, hm⟩) e1 e2 (.inl ⟨_, rfl⟩)
          have hx : RpAll X.K O (upd H1 a (.lst (xs ++ zs))) (xs ++ zs) (ds ++ es') := ((e4.same s1).app b3).fr ⟨f2, r1.r.ok⟩
          have r3 := r2.setO e2 (r.mine i a (.inl ⟨_, hm⟩) e1) upd_same hx fre i
          have es : σ.set i (some (.ref a)) = σ := by
            apply List.ext_getElem?
            intro j
            rw [getset]
            by_cases e : i = j
            · subst e; rw [if_pos rfl, if_pos (List.getElem?_eq_some_iff.mp e1).1, e1]
            · rw [if_neg e]
          rw [set_un_set, es] at r3
          exact q O σ _ r3 f2
        · rw [if_neg hl] at q
          exact q.elim
      | none => exact q.elim
      | bool i => exact q.elim
      | int i => exact q.elim
      | str i => exact q.elim
      | tuple i => exact q.elim
      | dict i => exact q.elim
    | un => exact q.elim
    | exc c => exact q.elim
    | dat d => exact q.elim
    | odc d => exact q.elim
end
end MP

set_option Elab.async false
set_option linter.all false
set_option maxRecDepth 100000
namespace MP
open PySem PySem.Spec PyProof.Rows L2
section
variable {X : Cx} {W : WX} {F : List Addr} {l l1 l2 l3 : Lv} {tg iter a b c e : Expr} {fa fb fc : E} {f g : S} {pos p : Pos} {st : Stmt} {rest body : List Stmt} {es : List Expr} {fe fi : EL} {t : Tg}
theorem gT_okS {O : List Addr} {m m' : En} {σ : L2.St} {H : Hp} {v : V} {d : MP.D} {Q : L2.St → Hp → Prop} (r : RefS X F O m σ H) (h : Rp X.K O H v d) (e : bindT t d m = some m') (q : ∀ τ, RefS X F O m' τ H → Q τ H) : gT X.K t v σ H Q :=
  gT_ok r.r h e fun τ rτ _ gτ => q τ ⟨rτ, r.sm, r.ent, r.sub, r.okF, fun i a ho he => by
    obtain ⟨h1, h2⟩ := own_bind e ho
    rw [gτ i h2] at he
    exact r.mine i a h1 he⟩
/-! ### for -/
def forGo (t : Tg) (fb : S) : List MP.D → S
  | [], m => some (.nx m)
  | d :: ds, m => match bindT t d m with
    | none => none
    | some m1 => match fb m1 with
      | some (.nx m2) => forGo t fb ds m2
      | some (.ct m2) => forGo t fb ds m2
      | some (.bk m2) => some (.nx m2)
      | o => o
def sFor (fi : EL) (t : Tg) (fb : S) : S := fun m => match fi m with
  | some (.ok ds) => forGo t fb ds m
  | some (.exc c) => some (.exc c m)
  | none => none
theorem s_for (hp : PassesOwn (model X.prog X.w) X.A X.env X.xe) (hc : X.calm = true) (hi : JI .s X W tg iter fi) (hg : JG X tg t) (hb : JSs X W F body f) (hs : ∀ x, foldedSetIterable iter X.env x = pure x := by intro _; rfl) : JS X W F (.For tg iter body [] pos) (sFor fi t f) := by
  refine ⟨PS.imp (ps_for hp hc hi.pi hg.pg hb.pss hs) ?_⟩
  intro D σ H ⟨O, m, r, q⟩
  refine ⟨O, m, r.r, ?_⟩
  unfold sFor at q
  cases hf : fi m with
  | none => rw [hf] at q; exact q
  | some z =>
    rw [hf] at q
    cases z with
    | exc c => exact fun H1 C e1 e2 => q O σ H1 C (r.same e1) (Fr.of_same e1) e2
    | ok ds =>
      intro H1 J s1 wk
      refine ⟨fun i n σ' H' => n = ds.length - i ∧ i ≤ ds.length ∧ ∃ O' m', RefS X F O' m' σ' H' ∧ Fr O H1 O' H' ∧ Post X W F O' H' D (forGo t f (ds.drop i) m'),
        ⟨_, rfl, Nat.zero_le _, O, m, r.same s1, Fr.refl, Post.fr q (Fr.of_same s1)⟩, ?_⟩
      rintro i n σ' H' ⟨rfl, hi, O', m', r', f', q'⟩
      by_cases hlt : i < ds.length
      · have hd : ds[i]? = some ds[i] := List.getElem?_eq_getElem hlt
        have hdrop : ds.drop i = ds[i] :: ds.drop (i + 1) := List.drop_eq_getElem_cons hlt
        rw [hdrop] at q'
        obtain ⟨go, yl⟩ := wk.1 O' H' i ds[i] f' hd
        refine .inr ⟨go, fun σ2 H2 => i + 1 ≤ ds.length ∧ ∃ O2 m2, RefS X F O2 m2 σ2 H2 ∧ Fr O H1 O2 H2 ∧ Post X W F O2 H2 D (forGo t f (ds.drop (i + 1)) m2), fun σ2 H2 ⟨b1, b2⟩ => ⟨ds.length - (i + 1), by omega, rfl, b1, b2⟩, fun x H2 hy => ?_⟩
        obtain ⟨s3, rx⟩ := yl x H2 hy
        unfold forGo at q'
        cases hb : bindT t ds[i] m' with
        | none => rw [hb] at q'; exact q'.elim
        | some m1 =>
          rw [hb] at q'
          dsimp only at q'
          have f2 : Fr O H1 O' H2 := f'.trans (Fr.of_same s3)
          refine gT_okS (r'.same s3) rx hb fun τ rτ => ⟨O', m1, rτ, ?_⟩
          have q2 := Post.fr q' (Fr.of_same (O := O') s3)
          cases hfm : f m1 with
          | none => rw [hfm] at q2; exact q2
          | some z =>
            rw [hfm] at q2
            cases z with
            | nx m2 => exact fun O3 σ3 H3 r3 t3 => ⟨hlt, O3, m2, r3, f2.trans t3, Post.fr q2 t3⟩
            | ct m2 => exact fun O3 σ3 H3 r3 t3 => ⟨hlt, O3, m2, r3, f2.trans t3, Post.fr q2 t3⟩
            | bk m2 => exact q2
            | rt d => exact q2
            | exc c m2 => exact q2
      · have e : i = ds.length := by omega
        subst e
        rw [List.drop_length] at q'
        exact .inl ⟨wk.2 O' H' _ f' (Nat.le_refl _), q' O' σ' H' r' Fr.refl⟩
/-! ### while -/
def whileGo (fc : E) (fb : S) : Nat → S
  | 0, _ => none
  | n + 1, m => bndS (fc m) m fun d => match d with
    | .bool true => (match fb m with
      | some (.nx m2) => whileGo fc fb n m2
      | some (.ct m2) => whileGo fc fb n m2
      | some (.bk m2) => some (.nx m2)
      | o => o)
    | .bool false => some (.nx m)
    | _ => none
def sWhile (n : Nat) (fc : E) (fb : S) : S := whileGo fc fb n
theorem s_while (n : Nat) (hp : PassesOwn (model X.prog X.w) X.A X.env X.xe) (hc : JT X W c fc) (hb : JSs X W F body f) : JS X W F (.While c body [] pos) (sWhile n fc f) := by
  refine ⟨PS.imp (ps_while hp hc.pt hb.pss) ?_⟩
  intro D σ H ⟨O, m, r, q⟩
  refine ⟨fun n σ' H' => ∃ O' m', RefS X F O' m' σ' H' ∧ Post X W F O' H' D (whileGo fc f n m'), ⟨n, O, m, r, q⟩, ?_⟩
  rintro n σ' H' ⟨O', m', r', q'⟩
  cases n with
  | zero => exact q'.elim
  | succ n =>
    unfold whileGo at q'
    refine rdST r' q' (fun d h => ?_) fun b H1 s1 q1 => ?_
    · cases d with
      | bool b => exact absurd rfl (h b)
      | _ => rfl
    · cases b with
      | false => exact iteF (q1 O' σ' H1 (r'.same s1) Fr.refl)
      | true =>
        refine iteT ⟨fun σ2 H2 => ∃ O2 m2, RefS X F O2 m2 σ2 H2 ∧ Post X W F O2 H2 D (whileGo fc f n m2), fun σ2 H2 h => ⟨n, Nat.lt_succ_self n, h⟩, O', m', r'.same s1, ?_⟩
        dsimp only at q1
        cases hfm : f m' with
        | none => rw [hfm] at q1; exact q1
        | some z =>
          rw [hfm] at q1
          cases z with
          | nx m2 => exact fun O3 σ3 H3 r3 t3 => ⟨O3, m2, r3, Post.fr q1 t3⟩
          | ct m2 => exact fun O3 σ3 H3 r3 t3 => ⟨O3, m2, r3, Post.fr q1 t3⟩
          | bk m2 => exact q1
          | rt d => exact q1
          | exc c m2 => exact q1
/-! ### a, b = e -/
def sUnp (t : Tg) (f : E) : S := fun m => bndS (f m) m fun d => match bindT t d m with
  | some m' => some (.nx m')
  | none => none
theorem s_unp (he : JE .s X W e fa) (hg : JG X tg t) (hs : swapsWithSole [tg] e pos.line X.env = pure false := by rfl) (hw : swappedStores [tg] e X.env = pure none := by rfl) (h1 : (assignEach [tg] X.env).map (·.2) = [assign tg X.env] := by rfl) :
    JS X W F (.Assign [tg] e pos) (sUnp t fa) := by
  refine ⟨PS.imp (ps_asg he.pe hg.pg hs hw h1) ?_⟩
  intro D σ H ⟨O, m, r, q⟩
  refine rdS r q fun d H1 v s1 rv q => ?_
  cases hb : bindT t d m with
  | none => rw [hb] at q; exact q.elim
  | some m1 =>
    rw [hb] at q
    exact gT_okS (r.same s1) rv hb fun τ rτ => q O τ H1 rτ Fr.refl
/-! ### a, b, .. = x, y, ..: some of the values are new lists of our own -/
inductive ResM where
  | ok (ds : List Sl)
  | exc (c : Str)
abbrev EM := En → Option ResM
/-- values for slots; a list of our own is held by nobody else (U: what is held) -/
inductive SlA (K : PySem.W.Frag) (F O : List Addr) (H : Hp) : (Addr → Prop) → List V → List Sl → Prop
  | nil {U : Addr → Prop} : SlA K F O H U [] []
  | dat {U : Addr → Prop} {v : V} {d : MP.D} {vs : List V} {ss : List Sl} : Rp K O H v d → SlA K F O H U vs ss → SlA K F O H U (v :: vs) (.dat d :: ss)
  | own {U : Addr → Prop} {a : Addr} {xs : List V} {ds : List MP.D} {vs : List V} {ss : List Sl} : a ∈ O → a ∉ F → H a = some (.lst xs) → RpAll K O H xs ds → ¬ U a → SlA K F O H (fun b => U b ∨ b = a) vs ss → SlA K F O H U (.ref a :: vs) (.own ds :: ss)
  | odc {U : Addr → Prop} {a : Addr} {ds : List (MP.D × MP.D)} {vs : List V} {ss : List Sl} : a ∈ O → a ∉ F → ((∃ kvs, H a = some (.dK kvs) ∧ RpK K O H kvs ds) ∨ ∃ kvs, H a = some (.dT kvs) ∧ RpT K O H kvs ds) → ¬ U a → SlA K F O H (fun b => U b ∨ b = a) vs ss → SlA K F O H U (.ref a :: vs) (.odc ds :: ss)
def heldBy (m : En) (σ : L2.St) (a : Addr) : Prop := ∃ i, ownAt m i ∧ σ[i]? = some (some (.ref a))
/-- more is ours, nothing is changed -/
structure Gr (O : List Addr) (H : Hp) (O' : List Addr) (H' : Hp) : Prop where
  sm : Same H H'
  up : ∀ a ∈ O, a ∈ O'
  nw : ∀ a ∈ O', a ∈ O ∨ H a = none
theorem Gr.refl {O : List Addr} {H : Hp} : Gr O H O H := ⟨Same.refl H, fun _ h => h, fun _ h => .inl h⟩
theorem Gr.trans {O O1 O2 : List Addr} {H H1 H2 : Hp} (a : Gr O H O1 H1) (b : Gr O1 H1 O2 H2) : Gr O H O2 H2 := ⟨a.sm.trans b.sm, fun x h => b.up x (a.up x h), fun x h => (b.nw x h).elim (a.nw x) fun z => .inr (a.sm.free z)⟩
theorem Gr.of_same {O : List Addr} {H H' : Hp} (e : Same H H') : Gr O H O H' := ⟨e, fun _ h => h, fun _ h => .inl h⟩
theorem Gr.fr {O O' : List Addr} {H H' : Hp} (g : Gr O H O' H') : Fr O H O' H' := fr_ext g.sm g.nw
def RdM (X : Cx) (W : WX) (F : List Addr) (f : EM) : TA := fun σ H Q => ∃ O m, RefS X F O m σ H ∧ ∃ U : Addr → Prop, (∀ a, U a → a ∈ O) ∧ match f m with
  | some (.ok ss) => ∀ O' H' vs, RefS X F O' m σ H' → Gr O H O' H' → SlA X.K F O' H' U vs ss → Q vs H'
  | some (.exc c) => ∀ O' H' C, RefS X F O' m σ H' → Gr O H O' H' → X.mg c = some (.ref C) → W (.ref C) none σ H'
  | none => False
structure JM (X : Cx) (W : WX) (F : List Addr) (es : List Expr) (f : EM) : Prop where
  pa : PA X es (RdM X W F f)
def mNil : EM := fun _ => some (.ok [])
def mCons (k : MP.D → Option Sl) (f : E) (r : EM) : EM := fun m => match f m with
  | some (.ok d) => (match k d with
    | some x => (match r m with
      | some (.ok ss) => some (.ok (x :: ss))
      | some (.exc c) => some (.exc c)
      | none => none)
    | none => none)
  | some (.exc c) => some (.exc c)
  | none => none
def kDat (d : MP.D) : Option Sl := some (.dat d)
def kOwn : MP.D → Option Sl
  | .list ds => some (.own ds)
  | _ => none
theorem m_nil : JM X W F [] mNil := ⟨PA.imp pa_nil fun σ H Q ⟨O, m, r, U, _, q⟩ => q O H [] r Gr.refl .nil⟩
theorem m_dat {fr : EM} (ha : JE .s X W a fa) (hr : JM X W F es fr) (hs : starEach (a :: es) X.env = (false, eval a X.env) :: starEach es X.env := by rfl) : JM X W F (a :: es) (mCons kDat fa fr) := by
  refine ⟨PA.imp (pa_cons ha.pe hr.pa hs) ?_⟩
  intro σ H Q ⟨O, m, r, U, hO, q⟩
  refine ⟨O, m, r.r, ?_⟩
  unfold mCons kDat at q
  cases hf : fa m with
  | none => rw [hf] at q; exact q
  | some z =>
    rw [hf] at q
    cases z with
    | exc c => exact fun H1 C s1 e => q O H1 C (r.same s1) (Gr.of_same s1) e
    | ok d =>
      intro H1 v s1 rv
      refine ⟨O, m, r.same s1, U, hO, ?_⟩
      dsimp only at q
      cases hg : fr m with
      | none => rw [hg] at q; exact q
      | some z =>
        rw [hg] at q
        cases z with
        | exc c => exact fun O' H' C r' g' => q O' H' C r' ((Gr.of_same s1).trans g')
        | ok ss => exact fun O' H' vs r' g' sl => q O' H' (v :: vs) r' ((Gr.of_same s1).trans g') (.dat (Rp.fr rv ⟨g'.fr, (r.same s1).r.ok⟩) sl)
theorem m_own {fr : EM} (ha : JE .f X W a fa) (hr : JM X W F es fr) (hs : starEach (a :: es) X.env = (false, eval a X.env) :: starEach es X.env := by rfl) : JM X W F (a :: es) (mCons kOwn fa fr) := by
  refine ⟨PA.imp (pa_cons ha.pe hr.pa hs) ?_⟩
  intro σ H Q ⟨O, m, r, U, hO, q⟩
  refine ⟨O, m, r.r, ?_⟩
  unfold mCons at q
  cases hf : fa m with
  | none => rw [hf] at q; exact q
  | some z =>
    rw [hf] at q
    cases z with
    | exc c => exact fun H1 C s1 e => q O H1 C (r.same s1) (Gr.of_same s1) e
    | ok d =>
      intro H1 v s1 rv
      cases d with
      | list ds =>
        obtain ⟨p, xs, rfl, h0, h1, h2⟩ := rv
        obtain ⟨r1, f1, n1, nF⟩ := r.grow s1 h0 h1 (.inl ⟨xs, rfl⟩)
        have nO : p ∉ O := r.r.ok.fresh h0
        have g1 : Gr O H (p :: O) H1 := ⟨s1, fun b hb => List.mem_cons_of_mem _ hb, fun b hb => (List.mem_cons.mp hb).elim (fun e => .inr (by rw [e]; exact h0)) .inl⟩
        refine ⟨p :: O, m, r1, (fun b => U b ∨ b = p), fun b hb => hb.elim (fun z => List.mem_cons_of_mem _ (hO b z)) (fun z => by rw [z]; exact List.mem_cons_self), ?_⟩
        dsimp only [kOwn] at q
        cases hg : fr m with
        | none => rw [hg] at q; exact q
        | some z =>
          rw [hg] at q
          cases z with
          | exc c => exact fun O' H' C r' g' => q O' H' C r' (g1.trans g')
          | ok ss =>
            intro O' H' vs r' g' sl
            refine q O' H' _ r' (g1.trans g') (.own (g'.up p List.mem_cons_self) nF (g'.sm _ _ h1) (h2.fr ⟨g'.fr, r1.r.ok⟩) (fun z => nO (hO p z)) sl)
      | none => exact q.elim
      | bool b => exact q.elim
      | int b => exact q.elim
      | str b => exact q.elim
      | tuple b => exact q.elim
      | dict b => exact q.elim
def setSl (m : En) : List Nat → List Sl → En
  | i :: is, d :: ds => setSl (m.set i d) is ds
  | _, _ => m
theorem RefT.setSl {O : List Addr} {H : Hp} : ∀ (is : List Nat) (vs : List V) (ss : List Sl) {U : Addr → Prop} {m : En} {σ : L2.St}, RefS X F O m σ H → SlA X.K F O H U vs ss → (∀ a, heldBy m σ a → U a) → vs.length = is.length → RefS X F O (MP.setSl m is ss) (setAllV σ is vs) H
  | [], [], [], _, _, _, r, _, _, _ => r
  | [], [], _ :: _, _, _, _, r, h, _, _ => by cases h
  | [], _ :: _, _, _, _, _, r, _, _, e => by cases e
  | _ :: _, _, _, _, _, _, r, .nil, _, e => by cases e
  | i :: is, _ :: vs, _ :: ss, U, m, σ, r, .dat h t, hU, e => by
    refine RefT.setSl is vs ss (r.setD h i) t (fun a ⟨j, ho, he⟩ => ?_) (by simpa using e)
    obtain ⟨n, ho⟩ := ownAt_set ⟨(fun _ z => by cases z), (fun _ z => by cases z)⟩ ho
    rw [getset, if_neg n] at he
    exact hU a ⟨j, ho, he⟩
  | i :: is, _ :: vs, _ :: ss, U, m, σ, r, .own (a := p) (ds := ds) h1 h2 h3 h4 h5 t, hU, e => by
    refine RefT.setSl is vs ss (r.setO h1 h2 h3 h4 (fun j ho he => h5 (hU p ⟨j, ho, he⟩)) i) t (fun b ⟨j, ho, he⟩ => ?_) (by simpa using e)
    rw [getset] at he
    by_cases hij : i = j
    · rw [if_pos hij] at he
      by_cases hl : i < σ.length
      · rw [if_pos hl] at he
        cases he
        exact .inr rfl
      · rw [if_neg hl] at he
        cases he
    · rw [if_neg hij] at he
      refine .inl (hU b ⟨j, ?_, he⟩)
      rcases ho with ⟨z, ho⟩ | ⟨z, ho⟩
      · rcases setget ho with ⟨e, _⟩ | ⟨_, ho⟩
        · exact absurd e hij
        · exact .inl ⟨z, ho⟩
      · rcases setget ho with ⟨e, _⟩ | ⟨_, ho⟩
        · exact absurd e hij
        · exact .inr ⟨z, ho⟩
  | i :: is, _ :: vs, _ :: ss, U, m, σ, r, .odc (a := p) (ds := ds) h1 h2 h3 h5 t, hU, e => by
    refine RefT.setSl is vs ss (r.setC h1 h2 h3 (fun j ho he => h5 (hU p ⟨j, ho, he⟩)) i) t (fun b ⟨j, ho, he⟩ => ?_) (by simpa using e)
    rw [getset] at he
    by_cases hij : i = j
    · rw [if_pos hij] at he
      by_cases hl : i < σ.length
      · rw [if_pos hl] at he
        cases he
        exact .inr rfl
      · rw [if_neg hl] at he
        cases he
    · rw [if_neg hij] at he
      refine .inl (hU b ⟨j, ?_, he⟩)
      rcases ho with ⟨z, ho⟩ | ⟨z, ho⟩
      · rcases setget ho with ⟨e, _⟩ | ⟨_, ho⟩
        · exact absurd e hij
        · exact .inl ⟨z, ho⟩
      · rcases setget ho with ⟨e, _⟩ | ⟨_, ho⟩
        · exact absurd e hij
        · exact .inr ⟨z, ho⟩
def sPar (is : List Nat) (f : EM) : S := fun m => match f m with
  | some (.ok ss) => if ss.length = is.length then some (.nx (setSl m is ss)) else none
  | some (.exc c) => some (.exc c m)
  | none => none
theorem SlA.length {K : PySem.W.Frag} {F O : List Addr} {H : Hp} {U : Addr → Prop} {vs : List V} {ss : List Sl} (h : SlA K F O H U vs ss) : vs.length = ss.length := by
  induction h with
  | nil => rfl
  | dat _ _ ih => simp [ih]
  | own _ _ _ _ _ _ ih => simp [ih]
  | odc _ _ _ _ _ ih => simp [ih]
theorem SlA.same {K : PySem.W.Frag} {F O : List Addr} {H H' : Hp} {U : Addr → Prop} {vs : List V} {ss : List Sl} (h : SlA K F O H U vs ss) (e : Same H H') : SlA K F O H' U vs ss := by
  induction h with
  | nil => exact .nil
  | dat a _ ih => exact .dat (a.same e) ih
  | own a b c d f _ ih => exact .own a b (e _ _ c) (d.same e) f ih
  | odc a b c f _ ih =>
    refine .odc a b ?_ f ih
    rcases c with ⟨kvs, h1, h2⟩ | ⟨kvs, h1, h2⟩
    · exact .inl ⟨kvs, e _ _ h1, h2.same e⟩
    · exact .inr ⟨kvs, e _ _ h1, h2.same e⟩
theorem par_core {fm : EM} {is : List Nat} {D : Ends} {σ : L2.St} {H : Hp} {P : List V → Hp → Prop} (q : RdS X W F (sPar is fm) D σ H)
    (step : ∀ O m O' H' vs ss, RefS X F O' m σ H' → Fr O H O' H' → SlA X.K F O' H' (heldBy m σ) vs ss → vs.length = is.length → (∀ O2 σ2 H2, RefS X F O2 (setSl m is ss) σ2 H2 → Fr O' H' O2 H2 → D.nx σ2 H2) → P vs H') : RdM X W F fm σ H P := by
  obtain ⟨O, m, r, q⟩ := q
  refine ⟨O, m, r, heldBy m σ, fun a ⟨i, ho, he⟩ => ?_, ?_⟩
  · rcases ho with ⟨z, ho⟩ | ⟨z, ho⟩
    · obtain ⟨b, _, e1, e2, _⟩ := r.r.own i z ho
      rw [he] at e1; cases e1
      exact e2
    · obtain ⟨b, e1, e2, _⟩ := r.r.odc i z ho
      rw [he] at e1; cases e1
      exact e2
  · unfold sPar at q
    cases hf : fm m with
    | none => rw [hf] at q; exact q
    | some z =>
      rw [hf] at q
      cases z with
      | exc c => exact fun O' H' C r' g' e => q O' σ H' C r' g'.fr e
      | ok ss =>
        intro O' H' vs r' g' sl
        dsimp only at q
        by_cases hl : ss.length = is.length
        · rw [if_pos hl] at q
          exact step O m O' H' vs ss r' g'.fr sl (by rw [sl.length]; exact hl) fun O2 σ2 H2 r2 f2 => q O2 σ2 H2 r2 (g'.fr.trans f2)
        · rw [if_neg hl] at q
          exact q.elim
theorem s_par2 {i j : Nat} {x y : Str} {fm : EM} {px py pt : Pos} {kt k2 pt2} (hc : X.calm = true) (hN : X.N.Nodup) (hi : X.N[i]? = some x) (hj : X.N[j]? = some y) (hij : i ≠ j) (hx : X.env.scope.names.lookup x = some .local) (hy : X.env.scope.names.lookup y = some .local) (ha : JM X W F [a, b] fm)
    (hw : swappedStores [.Tuple [.Name x px, .Name y py] kt pt] (.Tuple [a, b] k2 pt2) X.env = pure (some [x, y])) (hs : swapsWithSole [.Tuple [.Name x px, .Name y py] kt pt] (.Tuple [a, b] k2 pt2) pos.line X.env = pure false := by rfl) :
    JS X W F (.Assign [.Tuple [.Name x px, .Name y py] kt pt] (.Tuple [a, b] k2 pt2) pos) (sPar [i, j] fm) := by
  refine ⟨PS.imp (ps_par hc hN hi hj hij hx hy ha.pa hw hs) ?_⟩
  intro D σ H q
  refine par_core q fun O m O' H' vs ss r f sl hl q => ?_
  have r2 := RefT.setSl [i, j] vs ss r sl (fun _ h => h) hl
  match vs, hl, r2 with
  | [v, u], _, r2 => exact ⟨v, u, rfl, q O' _ H' r2 Fr.refl⟩
theorem s_par3 {i j k : Nat} {x y z : Str} {fm : EM} {px py pz pt : Pos} {kt k2 pt2} (hc : X.calm = true) (hN : X.N.Nodup) (hi : X.N[i]? = some x) (hj : X.N[j]? = some y) (hk : X.N[k]? = some z) (hij : i ≠ j) (hik : i ≠ k) (hjk : j ≠ k) (hx : X.env.scope.names.lookup x = some .local) (hy : X.env.scope.names.lookup y = some .local) (hz : X.env.scope.names.lookup z = some .local) (ha : JM X W F [a, b, c] fm)
    (hw : swappedStores [.Tuple [.Name x px, .Name y py, .Name z pz] kt pt] (.Tuple [a, b, c] k2 pt2) X.env = pure (some [x, y, z])) (hs : swapsWithSole [.Tuple [.Name x px, .Name y py, .Name z pz] kt pt] (.Tuple [a, b, c] k2 pt2) pos.line X.env = pure false := by rfl) :
    JS X W F (.Assign [.Tuple [.Name x px, .Name y py, .Name z pz] kt pt] (.Tuple [a, b, c] k2 pt2) pos) (sPar [i, j, k] fm) := by
  refine ⟨PS.imp (ps_par3 hc hN hi hj hk hij hik hjk hx hy hz ha.pa hw hs) ?_⟩
  intro D σ H q
  refine par_core q fun O m O' H' vs ss r f sl hl q => ?_
  have r2 := RefT.setSl [i, j, k] vs ss r sl (fun _ h => h) hl
  match vs, hl, r2 with
  | [v, u, w], _, r2 => exact ⟨v, u, w, rfl, q O' _ H' r2 Fr.refl⟩
theorem s_parN {is : List Nat} {ts : List Expr} {fm : EM} {pt : Pos} {kt k2 pt2} (ha : JM X W F es fm) (hg : JG X (.Tuple ts kt pt) (.tp is)) (hn : is.length ≤ 1000)
    (hs : swapsWithSole [.Tuple ts kt pt] (.Tuple es k2 pt2) pos.line X.env = pure false := by rfl) (hw : swappedStores [.Tuple ts kt pt] (.Tuple es k2 pt2) X.env = pure none := by rfl) (h1 : (assignEach [.Tuple ts kt pt] X.env).map (·.2) = [assign (.Tuple ts kt pt) X.env] := by rfl) :
    JS X W F (.Assign [.Tuple ts kt pt] (.Tuple es k2 pt2) pos) (sPar is fm) := by
  refine ⟨PS.imp (ps_asg (pe_tup ha.pa) hg.pg hs hw h1) ?_⟩
  intro D σ H q
  refine par_core q fun O m O' H' vs ss r f sl hl q => ?_
  refine ⟨Nat.le_of_lt (small1000 (by rw [hl]; exact hn)), fun p hp => ?_⟩
  have r2 := RefT.setSl is vs ss (r.same (same_upd (o := .tup vs) hp)) (sl.same (same_upd hp)) (fun _ h => h) hl
  exact ⟨p, vs, rfl, .inl (.inl upd_same), hl, gNames_ok is vs σ _ _ hl (q O' _ _ r2 (Fr.of_same (same_upd hp)))⟩
end
end MP

set_option Elab.async false
set_option linter.all false
set_option maxRecDepth 100000
namespace MP
open PySem PySem.Spec PyProof.Rows L2
/-! ### x.m(e): a method of a list or a str that changes nothing -/
def tyOk (T : String) : MP.D → Bool
  | .list _ => T == "list"
  | .str _ => T == "str"
  | _ => false
def eMt (T : String) (g : MP.D → MP.D → Option MP.D) (a b : E) : E := fun m => bnd (a m) fun x => if tyOk T x then bnd (b m) fun y => ret (g x y) else none
def OpM (K : PySem.W.Frag) (l : Lv) (r : V → List V → Hp → VK → Prop) (g : MP.D → MP.D → Option MP.D) : Prop := OpD K l (fun x y H Q => r x [y] H Q) g
section
variable {X : Cx} {W : WX} {F : List Addr} {l l1 l2 l3 : Lv} {a b c e : Expr} {fa fb fc : E} {f g : S} {pos p p1 p2 p3 : Pos} {st : Stmt} {body : List Stmt} {es : List Expr} {fe : EL}
theorem rp1_tyV {K : PySem.W.Frag} {O : List Addr} {H : Hp} {x : V} {d : MP.D} {T : String} (h : Rp1 K O H x d) (t : tyOk T d = true) : tyV K T x H := by
  cases d with
  | list xs =>
    obtain ⟨a, ys, rfl, q, _⟩ := h
    exact .inl ⟨beq_iff_eq.mp t, ys, q⟩
  | str z => rw [rp1_str h]; exact beq_iff_eq.mp t
  | none => cases t
  | bool b => cases t
  | int b => cases t
  | tuple b => cases t
  | dict b => cases t
theorem mt_core {T : String} {r : V → List V → Hp → VK → Prop} {g : MP.D → MP.D → Option MP.D} (hg : OpM X.K l r g) {σ : L2.St} {H : Hp} {Q : VK} (q : RdE l X W (eMt T g fa fb) σ H Q) : tBM X.K T r (RdE l1 X W fa) (tCons (RdE l2 X W fb) tNil) σ H Q := by
  obtain ⟨O, m, rf, q⟩ := q
  refine ⟨O, m, rf, ?_⟩
  unfold eMt at q
  cases hf : fa m with
  | none => rw [hf] at q; exact q
  | some z =>
    rw [hf] at q
    cases z with
    | exc c => exact q
    | ok dx =>
      intro H1 x e1 r1
      dsimp only [bnd] at q
      by_cases ht : tyOk T dx = true
      · rw [if_pos ht] at q
        have rx := r1.rp1 rf.ok
        refine ⟨rp1_tyV rx ht, O, m, rf.same e1, ?_⟩
        cases hb : fb m with
        | none => rw [hb] at q; exact q
        | some z =>
          rw [hb] at q
          cases z with
          | exc c => exact fun H' C s e => q H' C (e1.trans s) e
          | ok dy =>
            intro H2 y e2 r2
            dsimp only [bnd] at q
            cases hgd : g dx dy with
            | none => rw [hgd] at q; exact q.elim
            | some d =>
              rw [hgd] at q
              have ok1 := rf.ok.same e1
              exact hg O H2 x y dx dy d Q (ok1.same e2) (rx.same e2) (r2.rp1 ok1) hgd fun H' v e3 r3 => q H' v ((e1.trans e2).trans e3) (r3.pre (e1.trans e2))
      · rw [if_neg ht] at q
        exact q.elim
theorem j_mt {T id : String} {name : Str} {r : V → List V → Hp → VK → Prop} {g : MP.D → MP.D → Option MP.D} (pa : PlainAttrs T) (slot : Slot T name id) (hty : typeOf (.builtin id) = pure (.type "method_descriptor")) (hm : MtR X id r) (hg : OpM X.K l r g) (ha : JE l1 X W a fa) (hb : JE l2 X W b fb)
    (hbase : attributeBase a name X.env (eval a X.env) = eval a X.env := by rfl)
    (hfew : ((backTo p2 (starEach [b] X.env)).all (fun x => !x.1) && (backToKw p2 (keywordEach [] X.env)).all (fun x => x.1.isSome) && decide ([b].length + ([] : List Keyword).length + (if ([] : List Keyword).isEmpty then 0 else 1) < 30)) = true := by rfl)
    (hline : (p1.endLine == p2.line) = true := by rfl) (hs : starEach [b] X.env = (false, eval b X.env) :: starEach [] X.env := by rfl) :
    JE l X W (.Call (.Attribute a name p1) [b] [] p2) (eMt T g fa fb) :=
  ⟨PE.imp (pe_bm pa slot hty hm ha.pe (pa_cons hb.pe pa_nil hs) hbase hfew hline hs rfl) fun _ _ _ q => mt_core hg q⟩
/-- the first place of an equal one -/
def firstAt (d : MP.D) : List MP.D → Nat → Option Nat
  | [], _ => none
  | x :: xs, i => if PyData.eqv x d then some i else firstAt d xs (i + 1)
theorem firstAt_ok {d : MP.D} : ∀ (xs : List MP.D) (i j : Nat), firstAt d xs i = some j → ∃ k z, j = i + k ∧ xs[k]? = some z ∧ PyData.eqv z d = true ∧ ∀ (m : Nat) (z' : MP.D), m < k → xs[m]? = some z' → PyData.eqv z' d = false
  | [], i, j, h => by cases h
  | x :: xs, i, j, h => by
    unfold firstAt at h
    by_cases e : PyData.eqv x d = true
    · rw [if_pos e] at h
      cases h
      exact ⟨0, x, rfl, rfl, e, fun m z' hm => absurd hm (Nat.not_lt_zero m)⟩
    · rw [if_neg e] at h
      obtain ⟨k, z, h1, h2, h3, h4⟩ := firstAt_ok xs (i + 1) j h
      refine ⟨k + 1, z, by omega, by simpa using h2, h3, fun m z' hm hz => ?_⟩
      cases m with
      | zero =>
        simp at hz
        subst hz
        simpa using e
      | succ m => exact h4 m z' (by omega) (by simpa using hz)
def gIndex : MP.D → MP.D → Option MP.D
  | .list xs, d => if small (.list xs) && small d then (firstAt d xs 0).map fun j => .int (j : Nat) else none
  | _, _ => none
theorem od_index {K : PySem.W.Frag} : OpM K .s (rIndexD K) gIndex := by
  intro O H x y dx dy d Q ok rx ry hg q
  cases dx with
  | list xs =>
    replace hg : (if small (.list xs) && small dy then (firstAt dy xs 0).map fun j => PyData.int (j : Nat) else none) = some d := hg
    by_cases hs : (small (.list xs) && small dy) = true
    · rw [if_pos hs] at hg
      obtain ⟨s1, s2⟩ := Bool.and_eq_true_iff.mp hs
      cases hf : firstAt dy xs 0 with
      | none => rw [hf] at hg; cases hg
      | some j =>
        rw [hf] at hg
        cases hg
        obtain ⟨k, z, h1, h2, h3, h4⟩ := firstAt_ok xs 0 j hf
        have ej : j = k := by omega
        subst ej
        obtain ⟨d1, sh1⟩ := small_dp rx s1
        obtain ⟨d2, sh2⟩ := small_dp ry s2
        obtain ⟨a, ys, rfl, _, _⟩ := rx
        exact ⟨a, y, dy, xs, j, z, rfl, rfl, d1, d2, sh1, sh2, h2, h3, h4, q H _ (Same.refl H) .of_int⟩
    · rw [if_neg hs] at hg
      cases hg
  | none => cases hg
  | bool b => cases hg
  | int b => cases hg
  | str b => cases hg
  | tuple b => cases hg
  | dict b => cases hg
theorem j_index (hu : X.A.units + 65 < cLine) (ha : JE l1 X W a fa) (hb : JE l2 X W b fb)
    (hbase : attributeBase a "index" X.env (eval a X.env) = eval a X.env := by rfl)
    (hfew : ((backTo p2 (starEach [b] X.env)).all (fun x => !x.1) && (backToKw p2 (keywordEach [] X.env)).all (fun x => x.1.isSome) && decide ([b].length + ([] : List Keyword).length + (if ([] : List Keyword).isEmpty then 0 else 1) < 30)) = true := by rfl)
    (hline : (p1.endLine == p2.line) = true := by rfl) (hs : starEach [b] X.env = (false, eval b X.env) :: starEach [] X.env := by rfl) :
    JE .s X W (.Call (.Attribute a "index" p1) [b] [] p2) (eMt "list" gIndex fa fb) :=
  j_mt PySem.F.plainAttrs_list PySem.F.slot_list_index PySem.F.type_list_index (mt_indexD hu) od_index ha hb hbase hfew hline hs
/-! ### raise C('text') -/
/-- what the program's text brings for an exception class of its own -/
structure XC (K : PySem.W.Frag) (mg : Str → Option Value) (c : Str) : Prop where
  ex : ∃ C, mg c = some (.ref C) ∧ PySem.W.excIn K C [.type "ValueError", .type "Exception", .type "BaseException", .type "object"] "ValueError.__new__" = true ∧ PySem.W.keepIn K (.ref C) = true ∧ PySem.W.subIn K (.ref C) (.type "BaseException") = some true ∧ PySem.W.typeIn K (.ref C) = some (.type "type")
def sRaise (c : Str) : S := fun m => some (.exc c m)
theorem s_raise {x m : Str} {j : Nat} (hc : X.calm = true) (tk : Takes X W) (xc : XC X.K X.mg x) (hg : Gl X x) (hdb : (x == ("__debug__" : Str)) = false := by decide) : JS X W F (.Raise (some (.Call (.Name x p) [.Constant (.str m) j p2] [] p3)) none pos) (sRaise x) := by
  obtain ⟨C, h1, h2, h3, h4, h5⟩ := xc.ex
  refine ⟨PS.imp (ps_raise hc tk (pmk_own PySem.F.excBase_ValueError h2 h1 h3 (raises_own h4 h5) hg hdb)) ?_⟩
  intro D σ H ⟨O, m, r, q⟩
  exact q O σ H C r Fr.refl h1
/-! ### try .. except B as n -/
/-- what is known of the classes that may come -/
structure XKit (K : PySem.W.Frag) (mg : Str → Option Value) (B : Str) (cl : List Str) : Prop where
  exm : ∃ b, mg B = some (.ref b) ∧ ∀ x ∈ cl, ∀ C, mg x = some (.ref C) → PySem.W.exmOne K (.ref C) (.ref b) = some true
  exc : ∀ x ∈ cl, ∀ C, mg x = some (.ref C) → ExcC K C
  kit : ∀ x ∈ cl, ∀ y ∈ cl, ∀ C C', mg x = some (.ref C) → mg y = some (.ref C') → PySem.W.kitOne K (.ref C) (.ref C') = some (decide (x = y))
/-- the exception that a suite holds -/
structure Sui (X : Cx) (cl : List Str) (a : Addr) (oe : Obj) (x : Str) : Prop where
  mem : x ∈ cl
  cls : ∃ C, X.mg x = some (.ref C) ∧ Zc (.ref C) none oe
  fld : ∃ vs, oe.data = .fields vs
def clr : Sl → Sl
  | .exc _ => .un
  | s => s
def sTry (cl : List Str) (i : Nat) (fb : S) (fs : Str → S) : S := fun m => match fb m with
  | some (.exc x m1) => if x ∈ cl then (match fs x (m1.set i (.exc x)) with
    | some (.nx m2) => some (.nx ((m2.set i .un).map clr))
    | some (.bk m2) => some (.bk ((m2.set i .un).map clr))
    | some (.ct m2) => some (.ct ((m2.set i .un).map clr))
    | some (.rt d) => some (.rt d)
    | _ => none) else none
  | o => o
theorem RefT.setX {O : List Addr} {m : En} {σ : L2.St} {H : Hp} {a : Addr} (pn : List (Addr × Obj)) (r : RefS X F O m σ H) (hh : X.A.handled = none) (i : Nat) (x : Str) : RefS (X.suite a pn) F O (m.set i (.exc x)) (σ.set i (some (.ref a))) H := by
  have hc : ∀ (j : Nat) (c : Str), m[j]? ≠ some (Sl.exc c) := fun j c e => by
    obtain ⟨b, _, z⟩ := r.r.exc j c e
    rw [hh] at z; cases z
  have u := r.unset i (some (.ref a))
  have na : ∀ j, ownAt (m.set i (.exc x)) j → ownAt (m.set i .un) j := fun j ho => by
    obtain ⟨n, ho⟩ := ownAt_set ⟨(fun _ z => by cases z), (fun _ z => by cases z)⟩ ho
    rcases ho with ⟨z, ho⟩ | ⟨z, ho⟩
    · exact .inl ⟨z, by rw [getset, if_neg n]; exact ho⟩
    · exact .inr ⟨z, by rw [getset, if_neg n]; exact ho⟩
  have un : ∀ j (s : Sl), (∀ c, s ≠ Sl.exc c) → (m.set i (.exc x))[j]? = some s → (m.set i .un)[j]? = some s := fun j s hs q => by
    rcases setget q with ⟨_, _, z⟩ | ⟨n, q⟩
    · exact (hs x z.symm).elim
    · rw [getset, if_neg n]; exact q
  refine ⟨⟨by simpa using u.r.len, fun j d q => u.r.dat j d (un j _ (fun c z => by cases z) q), fun j d q => u.r.own j d (un j _ (fun c z => by cases z) q), fun j d q => u.r.odc j d (un j _ (fun c z => by cases z) q), fun j k b h1 h2 e1 e2 => u.r.inj j k b (na j h1) (na k h2) e1 e2, fun j c q => ?_, u.r.ok⟩,
    u.sm, u.ent, u.sub, u.okF, fun j b ho e => u.mine j b (na j ho) e⟩
  rcases setget q with ⟨rfl, hl, z⟩ | ⟨n, q⟩
  · exact ⟨a, by rw [getset, if_pos rfl, if_pos (by rw [r.r.len]; exact hl)], rfl⟩
  · exact absurd q (hc j c)
theorem clr_get {m : En} {j : Nat} {s : Sl} (hs : s ≠ .un) (h : (m.map clr)[j]? = some s) : m[j]? = some s ∧ ∀ c, s ≠ .exc c := by
  rw [List.getElem?_map] at h
  cases e : m[j]? with
  | none => rw [e] at h; cases h
  | some z =>
    rw [e] at h
    cases z with
    | exc c => cases h; exact absurd rfl hs
    | un => cases h; exact absurd rfl hs
    | dat d => cases h; exact ⟨rfl, fun c z => by cases z⟩
    | own d => cases h; exact ⟨rfl, fun c z => by cases z⟩
    | odc d => cases h; exact ⟨rfl, fun c z => by cases z⟩
theorem clr_own {m : En} {j : Nat} (h : ownAt (m.map clr) j) : ownAt m j := by
  rcases h with ⟨z, h⟩ | ⟨z, h⟩
  · exact .inl ⟨z, (clr_get (fun z => by cases z) h).1⟩
  · exact .inr ⟨z, (clr_get (fun z => by cases z) h).1⟩
theorem RefT.unX {O : List Addr} {m : En} {σ : L2.St} {H : Hp} {a : Addr} {pn : List (Addr × Obj)} (r : RefS (X.suite a pn) F O m σ H) (i : Nat) : RefS X F O ((m.set i .un).map clr) (σ.set i none) H := by
  have u := r.unset i none
  refine ⟨⟨by simpa using u.r.len, fun j d q => u.r.dat j d (clr_get (fun z => by cases z) q).1, fun j d q => u.r.own j d (clr_get (fun z => by cases z) q).1, fun j d q => u.r.odc j d (clr_get (fun z => by cases z) q).1, fun j k b h1 h2 e1 e2 => u.r.inj j k b (clr_own h1) (clr_own h2) e1 e2, fun j c q => ?_, u.r.ok⟩, u.sm, u.ent, u.sub, u.okF, fun j b ho e => u.mine j b (clr_own ho) e⟩
  exact absurd rfl ((clr_get (fun z => by cases z) q).2 c)
section
variable {B n : Str} {i : Nat} {cl : List Str} {suite : List Stmt} {b₀ : Stmt} {np pos' : Pos} {fs : Str → S}
theorem s_try (hs : X.stack = X.env :: X.outer) (hf : X.env.frame = some X.env.locals) (hN : X.N.Nodup) (hi : X.N[i]? = some n) (hln : X.env.kindOf n = some .local) (hh : X.A.handled = none) (xk : XKit X.K X.mg B cl) (hg : Gl X B) (tk : Takes X W)
    (hb : ∀ (W : WX) (pn : List (Addr × Obj)) (xe : Value → Shared → Prop), Takes (X.tr pn xe) W → PassesOwn (model X.prog X.w) X.A X.env xe → JSs (X.tr pn xe) W F body f)
    (hsu : ∀ (a : Addr) (oe : Obj) (pn : List (Addr × Obj)) (x : Str), Sui X cl a oe x → JSs (X.suite a ((a, oe) :: pn)) W0 F (b₀ :: suite) (fs x)) (hdb : (B == ("__debug__" : Str)) = false := by decide) :
    JS X W F (.Try body [.ExceptHandler (some (.Name B np)) (some n) (b₀ :: suite) pos'] [] [] pos) (sTry cl i f fs) := by
  obtain ⟨b, hB, hx⟩ := xk.exm
  refine ⟨PS.imp (ps_try_as (c := .ref b) (tb := fun W => RdS X W F f) (ts := fun a cls d D σ H => ∃ x C, cls = .ref C ∧ d = none ∧ X.mg x = some (.ref C) ∧ x ∈ cl ∧ RdS (X.suite a []) W0 F (fs x) D σ H) hs hf hN hi hln ⟨hg, hdb, .inl hB⟩ tk (fun W pn xe t p => (hb W pn xe t p).pss) fun a oe cls d pn hz hf => ?_) ?_⟩
  · refine ⟨fun pins s σ H Q I q => ?_⟩
    obtain ⟨x, C, rfl, rfl, hm, hx, q⟩ := q
    exact (hsu a oe pn x ⟨hx, ⟨C, hm, hz⟩, hf⟩).pss.run pins s σ H Q I q
  · intro D σ H ⟨O, m, r, q⟩
    refine ⟨O, m, r, ?_⟩
    unfold sTry at q
    cases hfm : f m with
    | none => rw [hfm] at q; exact q
    | some z =>
      rw [hfm] at q
      cases z with
      | nx m1 => exact q
      | rt d => exact q
      | bk m1 => exact q
      | ct m1 => exact q
      | exc x m1 =>
        intro O' σ' H' C r' f' hm
        dsimp only at q
        by_cases hmem : x ∈ cl
        · rw [if_pos hmem] at q
          refine ⟨true, hx x hmem C hm, fun _ a na => ?_, fun z => by cases z⟩
          refine ⟨x, C, rfl, rfl, hm, hmem, O', _, r'.setX [] hh i x, ?_⟩
          cases hsm : fs x (m1.set i (.exc x)) with
          | none => rw [hsm] at q; exact q
          | some z =>
            rw [hsm] at q
            cases z with
            | nx m2 => exact fun O2 σ2 H2 r2 f2 => q O2 _ H2 (r2.unX i) (f'.trans f2)
            | bk m2 => exact fun O2 σ2 H2 r2 f2 => q O2 _ H2 (r2.unX i) (f'.trans f2)
            | ct m2 => exact fun O2 σ2 H2 r2 f2 => q O2 _ H2 (r2.unX i) (f'.trans f2)
            | rt d => exact q
            | exc c m2 => exact q.elim
        · rw [if_neg hmem] at q
          exact q.elim
/-- isinstance(e, C) in a suite -/
def eIsx (cl : List Str) (i : Nat) (x y : Str) : E := fun m => match m[i]? with
  | some (.exc _) => if y ∈ cl then some (.ok (.bool (decide (x = y)))) else none
  | _ => none
theorem j_isx {a : Addr} {oe : Obj} {pn : List (Addr × Obj)} {x y n : Str} (S : Sui X cl a oe x) (xk : XKit X.K X.mg B cl) (cy : XC X.K X.mg y) (hm : X.mg "isinstance" = none) (hN : X.N[i]? = some n) (hv : Vis X.env.scope n) (hg : Gl X "isinstance") (hy : Gl X y)
    (hs : starEach [.Name n p1, .Name y p2] X.env = (false, eval (.Name n p1) X.env) :: starEach [.Name y p2] X.env := by rfl) (hs2 : starEach [.Name y p2] X.env = (false, eval (.Name y p2) X.env) :: starEach [] X.env := by rfl)
    (hpl : (backTo pos (starEach [.Name y p2] X.env)).any (·.1) = false := by rfl) (hd : (y == ("__debug__" : Str)) = false := by decide) (hdn : (n == ("__debug__" : Str)) = false := by decide) (hcd : (n == ("__classdict__" : Str)) = false := by decide) :
    JE l (X.suite a ((a, oe) :: pn)) W0 (.Call (.Name "isinstance" p) [.Name n p1, .Name y p2] [] pos) (eIsx cl i x y) := by
  obtain ⟨C, hC, hz⟩ := S.cls
  obtain ⟨Cy, hCy, _⟩ := cy.ex
  have h1 : PE (X.suite a ((a, oe) :: pn)) (.Name n p1) (tVar i) := pe_var hN hv hdn hcd
  have h2 : PE (X.suite a ((a, oe) :: pn)) (.Name y p2) (tC (.ref Cy)) := pe_glob hy hCy rfl hd
  refine ⟨PE.imp (pe_callB (call_isE (xk.exc x S.mem C hC) hz S.fld) hg hm PyProof.Rows.boot_isinstance (pa_cons h1 (pa_cons h2 pa_nil hs2) hs) (by decide) (by decide) hs hpl) ?_⟩
  intro σ H Q ⟨O, m, r, q⟩
  unfold eIsx at q
  cases hmi : m[i]? with
  | none => rw [hmi] at q; exact q.elim
  | some z =>
    rw [hmi] at q
    cases z with
    | exc c =>
      dsimp only at q
      by_cases hmem : y ∈ cl
      · rw [if_pos hmem] at q
        obtain ⟨b, e1, e2⟩ := r.exc i c hmi
        cases (show some (Value.ref a) = some (.ref b) from e2)
        exact ⟨.ref a, e1, .ref Cy, .ref Cy, decide (x = y), rfl, fun u hu => hu, xk.kit x S.mem y hmem C Cy hC hCy, q H _ (Same.refl H) .of_bl⟩
      · rw [if_neg hmem] at q
        exact q.elim
    | un => exact q.elim
    | dat d => exact q.elim
    | own d => exact q.elim
    | odc d => exact q.elim
end
end
end MP

set_option Elab.async false
set_option linter.all false
set_option maxRecDepth 100000
namespace MP
open PySem PySem.Spec PyProof.Rows L2
/-! ### a def, whole -/
def start0 (n : Nat) (ds : List MP.D) : En := ds.map .dat ++ List.replicate (n - ds.length) .un
def endD : Option Out → Option Res
  | some (.nx _) => some (.ok .none)
  | some (.rt d) => some (.ok d)
  | some (.exc c _) => some (.exc c)
  | _ => none
/-- what a body comes to, of N.length slots -/
def runD (b : S) (n : Nat) (ds : List MP.D) : Option Res := endD (b (start0 n ds))
abbrev WD (E : XK) : WX := fun cls d _ H => E cls d H
abbrev cx (P : Program) (w : World) (K : PySem.W.Frag) (mg : Str → Option Value) (base : Heap) (N : List Str) (x : Str) (scope : Scope) (f : Addr) (cdv : Value) (A : Around) (outer : List Env) (s : Shared) (H : Hp) (E : XK) : Cx := cxOf (L2.CX P w) P w K mg base N x scope f cdv A outer s H E
section
variable {P : Program} {w : World} {K : PySem.W.Frag} {mg : Str → Option Value} {base : Heap} {x : Str} {params : Arguments} {body : List Stmt} {scope : Scope} {f : Addr} {fd : FuncData} {N ps : List Str} {k : Nat} {b : S} {g : List MP.D → Option Res}
theorem takes_cx {cdv : Value} {A : Around} {outer : List Env} {s : Shared} {H : Hp} {E : XK} : Takes (cx P w K mg base N x scope f cdv A outer s H E) (WD E) := takes_of rfl rfl rfl rfl
theorem pass_cx {cdv : Value} {A : Around} {outer : List Env} {s : Shared} {H : Hp} {E : XK} : PassesOwn (model P w) (cx P w K mg base N x scope f cdv A outer s H E).A (cx P w K mg base N x scope f cdv A outer s H E).env (cx P w K mg base N x scope f cdv A outer s H E).xe := passes_of rfl
theorem start_ref {hd : Option Value} {O : List Addr} {vs : List V} {ds : List MP.D} {H : Hp} (ok : OwnOk O H) (r : RpAll K O H vs ds) (hl : ds.length ≤ N.length) : RefT K hd H O O (start0 N.length ds) (start N vs) H := by
  have hv := r.length
  have get0 : ∀ (i : Nat) (z : Sl), (start0 N.length ds)[i]? = some z → z ≠ .un → ∃ d, ds[i]? = some d ∧ z = .dat d := fun i z h hz => by
    unfold start0 at h
    by_cases hi : i < ds.length
    · rw [List.getElem?_append_left (by simpa using hi), List.getElem?_map] at h
      cases e : ds[i]? with
      | none => rw [e] at h; cases h
      | some d => rw [e] at h; cases h; exact ⟨d, rfl, rfl⟩
    · rw [List.getElem?_append_right (by simpa using hi)] at h
      have := List.getElem?_replicate (a := Sl.un) (n := N.length - ds.length) (i := i - (ds.map Sl.dat).length)
      rw [this] at h
      split at h
      · cases h; exact absurd rfl hz
      · cases h
  have noO : ∀ i, ¬ ownAt (start0 N.length ds) i := fun i h => by
    rcases h with ⟨z, h⟩ | ⟨z, h⟩
    · obtain ⟨d, _, e⟩ := get0 i _ h (fun z => by cases z); cases e
    · obtain ⟨d, _, e⟩ := get0 i _ h (fun z => by cases z); cases e
  refine ⟨⟨?_, fun i d h => ?_, fun i z h => absurd (.inl ⟨z, h⟩) (noO i), fun i z h => absurd (.inr ⟨z, h⟩) (noO i), fun i j a h => absurd h (noO i), fun i c h => ?_, ok⟩, Same.refl H, fun a h n => absurd h n, fun a h => h, ok, fun i a h => absurd h (noO i)⟩
  · unfold L2.start start0
    simp [hv]
  · obtain ⟨d', h1, e⟩ := get0 i _ h (fun z => by cases z)
    cases e
    obtain ⟨v, h2, h3⟩ := r.get h1
    refine ⟨v, ?_, h3⟩
    unfold L2.start
    have hi : i < vs.length := (List.getElem?_eq_some_iff.mp h2).1
    rw [List.getElem?_append_left (by simpa using hi), List.getElem?_map, h2]
    rfl
  · obtain ⟨d, _, e⟩ := get0 i _ h (fun z => by cases z); cases e
/-- the body keeps the promise -/
theorem body_ok {cdv : Value} {A : Around} {outer : List Env} {s : Shared} {H : Hp} {E : XK} {vs : List V} {Q : VK} (hl : ps.length ≤ N.length) (hg : ∀ ds r, g ds = some r → ds.length = ps.length ∧ runD b N.length ds = some r) (h : spD K mg g vs H Q E)
    (hb : ∀ F, JSs (cx P w K mg base N x scope f cdv A outer s H E) (WD E) F body b) :
    ∃ t, PSs (cx P w K mg base N x scope f cdv A outer s H E) body t ∧ t { nx := fun _ H' => Q .non H', rt := Q } (start N vs) H := by
  obtain ⟨O, ds, ok, r, q⟩ := h
  refine ⟨_, (hb O).pss, O, start0 N.length ds, ?_⟩
  cases hgd : g ds with
  | none => rw [hgd] at q; exact q.elim
  | some z =>
    rw [hgd] at q
    obtain ⟨h1, h2⟩ := hg ds z hgd
    refine ⟨start_ref ok r (by rw [h1]; exact hl), ?_⟩
    unfold runD at h2
    cases hbd : b (start0 N.length ds) with
    | none => rw [hbd] at h2; cases h2
    | some y =>
      rw [hbd] at h2
      cases y with
      | nx m => cases h2; exact fun O' σ' H' r' _ => q H' _ r'.sm .non
      | rt d => cases h2; exact fun v H' s' rv => q H' v s' rv
      | exc c m => cases h2; exact fun O' σ' H' C r' _ hc => q H' C r'.sm hc
      | bk m => cases h2
      | ct m => cases h2
theorem df_of (F : FunD K x x params body scope [] [] f fd) (hf : mg x = some (.ref f)) (S : FnScope N ps scope)
    (hbi : ∀ (kV doc pm : Value) (an : Option Addr) (cdv ct : Value) (us : List Value), us.length = ps.length → bindArgs (PySem.W.fnOf x x params body scope .none kV doc pm an cdv ct) ⟨us, []⟩ = pure (ps.zip us))
    (hg : ∀ ds r, g ds = some r → ds.length = ps.length ∧ runD b N.length ds = some r)
    (hb : ∀ (cdv : Value) (A : Around) (outer : List Env) (s : Shared) (H : Hp) (E : XK), Room k (cx P w K mg base N x scope f cdv A outer s H E).A → ∀ F, JSs (cx P w K mg base N x scope f cdv A outer s H E) (WD E) F body b) : Df P w K mg base (k + 1) x g := by
  refine ⟨f, fd, ps, hf, F.kp, F.bindsN hbi, F.ok S (fun vs H Q E h => ?_) fun cdv A outer s H vs Q E hr h => ?_⟩
  · obtain ⟨O, ds, ok, r, q⟩ := h
    cases hgd : g ds with
    | none => rw [hgd] at q; exact q.elim
    | some z => rw [r.length]; exact (hg ds z hgd).1
  · have hl : ps.length ≤ N.length := by have := congrArg List.length S.pre; rw [List.length_take] at this; omega
    exact body_ok hl hg h (hb cdv A outer s H E hr)
end
/-! ### what rules ask of the room -/
theorem room_u {k : Nat} {A : Around} (r : Room k A) : A.units + 65 < cLine := by have := r.un; omega
end MP

set_option Elab.async false
set_option linter.all false
set_option maxRecDepth 100000
namespace MP
open PySem PySem.Spec PyProof.Rows L2
def mkT : List MP.D → Option Res := fun ds => if ds.length ≤ 1000 then some (.ok (.tuple ds)) else none
def mkL : List MP.D → Option Res := fun ds => if ds.length ≤ 1000 then some (.ok (.list ds)) else none
def rB (g : List MP.D → Option MP.D) : List MP.D → Option Res := fun ds => ret (g ds)
/-- isinstance of a built-in type; dicts are not asked -/
def gIsi (T : String) : MP.D → Option MP.D := fun d => match d with | .dict _ => none | d => gIsT T d
theorem takes0 {X : Cx} : Takes X W0 := fun _ _ ⟨_, _, _, _, _, _, _, _, _, _, _, _, _, _, _, _, w⟩ => w.elim
section
variable {X : Cx} {W : WX} {l l1 l2 l3 : Lv} {a b c e : Expr} {fa fb fc : E} {pos p : Pos} {es : List Expr} {fe : EL}
theorem j_gintE {x : Str} {i : Int} (hm : ∃ t, X.mg x = some (.int i t)) (hg : Gl X x) (hd : (x == ("__debug__" : Str)) = false := by decide) : JE l X W (.Name x pos) (eC (.int i)) := by
  obtain ⟨t, h⟩ := hm
  exact j_gint h hg hd
theorem j_gstrE {x : Str} {i : Str} (hm : ∃ t, X.mg x = some (.str i t)) (hg : Gl X x) (hd : (x == ("__debug__" : Str)) = false := by decide) : JE l X W (.Name x pos) (eC (.str i)) := by
  obtain ⟨t, h⟩ := hm
  exact j_gstr h hg hd
theorem j_lenF (hm : X.mg "len" = none) (hgl : Gl X "len") (ha : JA .w X W (e :: es) fe) (he : starEach (e :: es) X.env = (false, eval e X.env) :: starEach es X.env := by rfl) (hpl : (backTo pos (starEach es X.env)).any (·.1) = false := by rfl) :
    JE .s X W (.Call (.Name "len" p) (e :: es) [] pos) (eFn (rB bLen) fe) := j_bi call_len od_len hm boot_len hgl ha (by decide) (by decide) he hpl
theorem j_allF (hc : X.calm = true) (hm : X.mg "all" = none) (hgl : Gl X "all") (ha : JA .w X W (e :: es) fe) (he : starEach (e :: es) X.env = (false, eval e X.env) :: starEach es X.env := by rfl) (hpl : (backTo pos (starEach es X.env)).any (·.1) = false := by rfl) :
    JE .s X W (.Call (.Name "all" p) (e :: es) [] pos) (eFn (rB bAll) fe) := j_bi (cr_all hc) od_all hm PyProof.Rows.boot_all hgl ha (by decide) (by decide) he hpl
theorem j_anyF (hc : X.calm = true) (hm : X.mg "any" = none) (hgl : Gl X "any") (ha : JA .w X W (e :: es) fe) (he : starEach (e :: es) X.env = (false, eval e X.env) :: starEach es X.env := by rfl) (hpl : (backTo pos (starEach es X.env)).any (·.1) = false := by rfl) :
    JE .s X W (.Call (.Name "any" p) (e :: es) [] pos) (eFn (rB bAny) fe) := j_bi (cr_any hc) od_any hm PyProof.Rows.boot_any hgl ha (by decide) (by decide) he hpl
theorem j_sumF (hc : X.calm = true) (hm : X.mg "sum" = none) (hgl : Gl X "sum") (ha : JA .w X W (e :: es) fe) (he : starEach (e :: es) X.env = (false, eval e X.env) :: starEach es X.env := by rfl) (hpl : (backTo pos (starEach es X.env)).any (·.1) = false := by rfl) :
    JE .s X W (.Call (.Name "sum" p) (e :: es) [] pos) (eFn (rB bSum) fe) := j_bi (cr_sum hc) od_sum hm PyProof.Rows.boot_sum hgl ha (by decide) (by decide) he hpl
theorem j_maxF (hc : X.calm = true) (hm : X.mg "max" = none) (hgl : Gl X "max") (ha : JA .w X W (e :: es) fe) (he : starEach (e :: es) X.env = (false, eval e X.env) :: starEach es X.env := by rfl) (hpl : (backTo pos (starEach es X.env)).any (·.1) = false := by rfl) :
    JE .s X W (.Call (.Name "max" p) (e :: es) [] pos) (eFn (rB bMax) fe) := j_bi (cr_max hc) od_max hm PyProof.Rows.boot_max hgl ha (by decide) (by decide) he hpl
theorem j_minF (hc : X.calm = true) (hm : X.mg "min" = none) (hgl : Gl X "min") (ha : JA .w X W (e :: es) fe) (he : starEach (e :: es) X.env = (false, eval e X.env) :: starEach es X.env := by rfl) (hpl : (backTo pos (starEach es X.env)).any (·.1) = false := by rfl) :
    JE .s X W (.Call (.Name "min" p) (e :: es) [] pos) (eFn (rB bMin) fe) := j_bi (cr_min hc) od_min hm PyProof.Rows.boot_min hgl ha (by decide) (by decide) he hpl
theorem j_max2F (hc : X.calm = true) (hm : X.mg "max" = none) (hgl : Gl X "max") (ha : JA .w X W (e :: es) fe) (he : starEach (e :: es) X.env = (false, eval e X.env) :: starEach es X.env := by rfl) (hpl : (backTo pos (starEach es X.env)).any (·.1) = false := by rfl) :
    JE .s X W (.Call (.Name "max" p) (e :: es) [] pos) (eFn (rB bMax2) fe) := j_bi (call_max2 hc) od_max2 hm PyProof.Rows.boot_max hgl ha (by decide) (by decide) he hpl
theorem j_min2F (hc : X.calm = true) (hm : X.mg "min" = none) (hgl : Gl X "min") (ha : JA .w X W (e :: es) fe) (he : starEach (e :: es) X.env = (false, eval e X.env) :: starEach es X.env := by rfl) (hpl : (backTo pos (starEach es X.env)).any (·.1) = false := by rfl) :
    JE .s X W (.Call (.Name "min" p) (e :: es) [] pos) (eFn (rB bMin2) fe) := j_bi (call_min2 hc) od_min2 hm PyProof.Rows.boot_min hgl ha (by decide) (by decide) he hpl
theorem j_absF (hm : X.mg "abs" = none) (hgl : Gl X "abs") (ha : JA .w X W (e :: es) fe) (he : starEach (e :: es) X.env = (false, eval e X.env) :: starEach es X.env := by rfl) (hpl : (backTo pos (starEach es X.env)).any (·.1) = false := by rfl) :
    JE .s X W (.Call (.Name "abs" p) (e :: es) [] pos) (eFn (rB bAbs) fe) := j_bi call_abs od_abs hm PyProof.Rows.boot_abs hgl ha (by decide) (by decide) he hpl
theorem j_tupleF (hm : X.mg "tuple" = none) (hgl : Gl X "tuple") (ha : JA .w X W (e :: es) fe) (he : starEach (e :: es) X.env = (false, eval e X.env) :: starEach es X.env := by rfl) (hpl : (backTo pos (starEach es X.env)).any (·.1) = false := by rfl) :
    JE .s X W (.Call (.Name "tuple" p) (e :: es) [] pos) (eFn (rB bTuple) fe) := j_bt call_tuple_of od_tuple hm PyProof.Rows.boot_tuple hgl ha (by decide) (by decide) he hpl
theorem j_listF (hm : X.mg "list" = none) (hgl : Gl X "list") (ha : JA .w X W (e :: es) fe) (he : starEach (e :: es) X.env = (false, eval e X.env) :: starEach es X.env := by rfl) (hpl : (backTo pos (starEach es X.env)).any (·.1) = false := by rfl) :
    JE .f X W (.Call (.Name "list" p) (e :: es) [] pos) (eFn (rB bList) fe) := j_bt call_list_of od_list hm PyProof.Rows.boot_list hgl ha (by decide) (by decide) he hpl
theorem j_intF (hm : X.mg "int" = none) (hgl : Gl X "int") (ha : JA .w X W (e :: es) fe) (he : starEach (e :: es) X.env = (false, eval e X.env) :: starEach es X.env := by rfl) (hpl : (backTo pos (starEach es X.env)).any (·.1) = false := by rfl) :
    JE .s X W (.Call (.Name "int" p) (e :: es) [] pos) (eFn (rB bInt) fe) := j_bt call_int1 od_int1 hm PyProof.Rows.boot_int hgl ha (by decide) (by decide) he hpl
theorem j_strF (hm : X.mg "str" = none) (hgl : Gl X "str") (ha : JA .w X W (e :: es) fe) (he : starEach (e :: es) X.env = (false, eval e X.env) :: starEach es X.env := by rfl) (hpl : (backTo pos (starEach es X.env)).any (·.1) = false := by rfl) :
    JE .s X W (.Call (.Name "str" p) (e :: es) [] pos) (eFn (rB bStr) fe) := j_bt call_str_int od_str hm PyProof.Rows.boot_str hgl ha (by decide) (by decide) he hpl
theorem j_sortIF (hm : X.mg "sorted" = none) (hgl : Gl X "sorted") (ha : JA .w X W (e :: es) fe) (he : starEach (e :: es) X.env = (false, eval e X.env) :: starEach es X.env := by rfl) (hpl : (backTo pos (starEach es X.env)).any (·.1) = false := by rfl) :
    JE .f X W (.Call (.Name "sorted" p) (e :: es) [] pos) (eFn (rB bSortI) fe) := j_bi cr_sortedI od_sortI hm PyProof.Rows.boot_sorted hgl ha (by decide) (by decide) he hpl
end
/-- a def's own reading as its promise -/
def mkG (b : S) (n N : Nat) : List MP.D → Option Res := fun ds => if ds.length = n then runD b N ds else none
theorem mkG_ok {b : S} {n N : Nat} (ds : List MP.D) (r : Res) (h : mkG b n N ds = some r) : ds.length = n ∧ runD b N ds = some r := by
  unfold mkG at h
  by_cases e : ds.length = n
  · rw [if_pos e] at h; exact ⟨e, h⟩
  · rw [if_neg e] at h; cases h
end MP

set_option Elab.async false
set_option linter.all false
set_option maxRecDepth 100000
namespace MP
open PySem PySem.Spec PyProof.Rows L2
/-! ### what the head tells of the exception classes -/
def exOne (K : PySem.W.Frag) (x : Str) : Bool :=
  (He.Fa.glo x).ok K && ((He.Fa.exc x).ok K && ((He.Fa.exm x "GearError" true).ok K && (decide (PySem.W.findIn K (.ref (He.ga K x)) "__getattribute__" = some (some (.builtin "BaseException.__getattribute__"))) && (decide (PySem.W.findIn K (.ref (He.ga K x)) "__getattr__" = some none) &&
  (PySem.W.hasDictIn K (He.ga K x) && (decide (PySem.W.findIn K (.ref (He.ga K x)) "__class__" = some (some (.builtin "object.__class__"))) &&
  (decide (PySem.W.specialIn K (.builtin "object.__class__") "__get__" = some (some (.builtin "getset_descriptor.__get__"))) && (decide (PySem.W.takesIn K (.builtin "object.__class__") = some true) && decide (PySem.W.mroIn K (He.ga K x) (.type "object") = some true)))))))))
def exKit (K : PySem.W.Frag) (cl : List Str) : Bool := cl.all fun c => cl.all fun d => decide (PySem.W.kitOne K (.ref (He.ga K c)) (.ref (He.ga K d)) = some (decide (c = d)))
def exAll (cl : List Str) (K : PySem.W.Frag) : Bool := (He.Fa.glo "GearError").ok K && (cl.all (exOne K) && exKit K cl)
section
variable {K : PySem.W.Frag} {h : Heap} {mg : Str → Option Value} {cl : List Str}
theorem exAll_xc (X : K.In h) (G : h.Ns mainGlobals mg) (c : exAll cl K = true) {x : Str} (hx : x ∈ cl) : XC K mg x := by
  obtain ⟨_, c2⟩ := He.ba c
  obtain ⟨c3, _⟩ := He.ba c2
  obtain ⟨h1, h2⟩ := He.ba (List.all_eq_true.mp c3 x hx)
  obtain ⟨h3, _⟩ := He.ba h2
  obtain ⟨e1, e2, e3, e4⟩ := He.exc_ok h3
  exact ⟨_, He.glo_ok X G h1, e1, e2, e3, e4⟩
theorem exAll_xk (X : K.In h) (G : h.Ns mainGlobals mg) (c : exAll cl K = true) : XKit K mg "GearError" cl := by
  obtain ⟨c1, c2⟩ := He.ba c
  obtain ⟨c3, c4⟩ := He.ba c2
  have at_ : ∀ x ∈ cl, ∀ C, mg x = some (.ref C) → C = He.ga K x := fun x hx C e => by
    obtain ⟨h1, _⟩ := He.ba (List.all_eq_true.mp c3 x hx)
    rw [He.glo_ok X G h1] at e
    cases e
    rfl
  refine ⟨⟨_, He.glo_ok X G c1, fun x hx C e => ?_⟩, fun x hx C e => ?_, fun x hx y hy C C' e e' => ?_⟩
  · rw [at_ x hx C e]
    obtain ⟨_, h2⟩ := He.ba (List.all_eq_true.mp c3 x hx)
    obtain ⟨_, h3⟩ := He.ba h2
    exact He.exm_ok (He.ba h3).1
  · rw [at_ x hx C e]
    obtain ⟨_, h2⟩ := He.ba (List.all_eq_true.mp c3 x hx)
    obtain ⟨g1, h3⟩ := He.ba h2
    obtain ⟨_, h4⟩ := He.ba h3
    obtain ⟨a1, h5⟩ := He.ba h4
    obtain ⟨a2, h6⟩ := He.ba h5
    obtain ⟨a3, h7⟩ := He.ba h6
    obtain ⟨a4, h8⟩ := He.ba h7
    obtain ⟨a5, h9⟩ := He.ba h8
    obtain ⟨a6, a7⟩ := He.ba h9
    exact ⟨of_decide_eq_true a1, of_decide_eq_true a2, (He.exc_ok g1).2.2.1, a3, of_decide_eq_true a4, of_decide_eq_true a5, of_decide_eq_true a6, of_decide_eq_true a7⟩
  · rw [at_ x hx C e, at_ y hy C' e']
    exact of_decide_eq_true (List.all_eq_true.mp (List.all_eq_true.mp c4 x hx) y hy)
end
/-! ### the law's def -/
abbrev cx0 (P : Program) (w : World) (K : PySem.W.Frag) (mg : Str → Option Value) (base : Heap) (N : List Str) (x : Str) (scope : Scope) (f : Addr) (cdv : Value) (A : Around) (outer : List Env) (s : Shared) (H : Hp) (E : XK) : Cx := cxOf CX0 P w K mg base N x scope f cdv A outer s H E
def spLaw (K : PySem.W.Frag) : Sp := fun vs H Q _ => ∃ (a : Addr) (ns : List Int), vs = [.ref a] ∧ SqL K H a (ns.map V.int) ∧ ns.length ≤ 63 ∧ ∀ H', Q (.bl true) H'
section
variable {P : Program} {w : World} {K : PySem.W.Frag} {mg : Str → Option Value} {base : Heap} {x : Str} {params : Arguments} {body : List Stmt} {scope : Scope} {f : Addr} {fd : FuncData} {N : List Str} {k : Nat} {b : S}
theorem pass_cx0 {cdv : Value} {A : Around} {outer : List Env} {s : Shared} {H : Hp} {E : XK} : PassesOwn (model P w) (cx0 P w K mg base N x scope f cdv A outer s H E).A (cx0 P w K mg base N x scope f cdv A outer s H E).env (cx0 P w K mg base N x scope f cdv A outer s H E).xe := passes_of rfl
theorem law_of (F : FunD K x x params body scope [] [] f fd) (S : FnScope N ["script"] scope) (hl : 1 ≤ N.length)
    (hg : ∀ ns : List Int, ns.length ≤ 63 → runD b N.length [.list (ns.map PyData.int)] = some (.ok (.bool true)))
    (hb : ∀ (cdv : Value) (A : Around) (outer : List Env) (s : Shared) (H : Hp) (E : XK), Room k (cx0 P w K mg base N x scope f cdv A outer s H E).A → ∀ F, JSs (cx0 P w K mg base N x scope f cdv A outer s H E) W0 F body b) : FnOk P w K mg base CX0 (k + 1) f fd ["script"] (spLaw K) := by
  refine F.ok S (fun vs H Q E h => ?_) fun cdv A outer s H vs Q E hr h => ?_
  · obtain ⟨a, ns, rfl, _⟩ := h
    rfl
  · obtain ⟨a, ns, rfl, hq, hn, q⟩ := h
    have hd : Rp K [] H (.ref a) (.list (ns.map PyData.int)) := .lst (by
      rcases hq with r | r
      · exact .inl ⟨r, fun z => nomatch z⟩
      · exact .inr r) .of_ints
    refine ⟨_, (hb cdv A outer s H E hr []).pss, [], start0 N.length [.list (ns.map PyData.int)], start_ref (fun a z => nomatch z) (.cons hd .nil) hl, ?_⟩
    have h2 := hg ns hn
    unfold runD at h2
    cases hbd : b (start0 N.length [.list (ns.map PyData.int)]) with
    | none => rw [hbd] at h2; cases h2
    | some y =>
      rw [hbd] at h2
      cases y with
      | nx m => cases h2
      | rt d =>
        cases h2
        intro v H' s' rv
        cases rv
        exact q H'
      | exc c m => cases h2
      | bk m => cases h2
      | ct m => cases h2
end
end MP

set_option Elab.async false
set_option linter.all false
set_option maxRecDepth 100000
namespace MP
open PySem PySem.Spec PyProof.Rows L2
/-! ### sorted, min, max of lists of data -/
def tup1 : MP.D → Bool
  | .tuple (_ :: _) => true
  | _ => false
def notTN : MP.D → Bool
  | .none => false
  | .tuple _ => false
  | _ => true
def notN : MP.D → Bool
  | .none => false
  | _ => true
def alikeL (xs : List MP.D) : Bool := xs.all fun x => xs.all fun y => PySem.W.alike x y
def sortD (xs : List MP.D) : List MP.D := xs.mergeSort (PySem.W.dataLe false id)
def okSort (xs : List MP.D) : Bool := decide (xs.length ≤ line) && (xs.all small && (alikeL xs && (xs.all tup1 || xs.all notTN)))
def bSort : List MP.D → Option MP.D
  | [.list xs] => if okSort xs then some (.list (sortD xs)) else none
  | _ => none
theorem alikeL_ok {xs : List MP.D} (h : alikeL xs = true) : PySem.W.AllAlike xs := fun d hd e he => List.all_eq_true.mp (List.all_eq_true.mp h d hd) e he
theorem sortable_ok {xs : List MP.D} (h : (xs.all tup1 || xs.all notTN) = true) : PySem.W.Sortable xs := by
  rcases Bool.or_eq_true_iff.mp h with h | h
  · refine .inl fun d hd => ?_
    have q := List.all_eq_true.mp h d hd
    cases d with
    | tuple ys =>
      cases ys with
      | nil => cases q
      | cons x r => exact ⟨x, r, rfl⟩
    | none => cases q
    | bool b => cases q
    | int b => cases q
    | str b => cases q
    | list b => cases q
    | dict b => cases q
  · refine .inr fun d hd => ?_
    have q := List.all_eq_true.mp h d hd
    cases d with
    | tuple ys => cases q
    | none => cases q
    | bool b => exact ⟨(fun z => by cases z), fun _ z => by cases z⟩
    | int b => exact ⟨(fun z => by cases z), fun _ z => by cases z⟩
    | str b => exact ⟨(fun z => by cases z), fun _ z => by cases z⟩
    | list b => exact ⟨(fun z => by cases z), fun _ z => by cases z⟩
    | dict b => exact ⟨(fun z => by cases z), fun _ z => by cases z⟩
theorem small_depth {d : MP.D} (h : small d = true) : flat d = true ∧ d.canLay0 = true ∧ d.depth ≤ 8 := dep_ok 8 d h
section
variable {X : Cx} {K : PySem.W.Frag}
/-- values with their data -/
theorem each_zip {O : List Addr} {H : Hp} : ∀ {vs : List V} {ds : List MP.D} {us : List Value}, RpAll K O H vs ds → Vals vs us → PySem.W.EachIs (fun u (b : V × MP.D) => RelV b.1 u ∧ Rp K O H b.1 b.2) us (vs.zip ds)
  | _, _, _, .nil, .nil => .nil
  | _, _, _, .cons a b, .cons r t => .cons ⟨r, a⟩ (each_zip b t)
theorem each_reads {h : Heap} : ∀ {us : List Value} {vs : List V} {ds : List MP.D} {as : List Addr}, vs.length = ds.length → ReadsAll h us ds as → PySem.W.EachIs (fun u (b : V × MP.D) => ∃ as, Reads h u b.2 as) us (vs.zip ds)
  | _, [], [], _, _, .nil => .nil
  | _, v :: vs, d :: ds, _, e, .cons a b => .cons ⟨_, a⟩ (each_reads (by simpa using e) b)
  | _, [], _ :: _, _, e, _ => by simp at e
  | _, _ :: _, [], _, e, _ => by simp at e
theorem each_vals {O : List Addr} {H : Hp} : ∀ {us : List Value} {bs : List (V × MP.D)}, PySem.W.EachIs (fun u (b : V × MP.D) => RelV b.1 u ∧ Rp K O H b.1 b.2) us bs → Vals (bs.map (·.1)) us ∧ RpAll K O H (bs.map (·.1)) (bs.map (·.2))
  | _, _, .nil => ⟨.nil, .nil⟩
  | _, _, .cons ⟨a, b⟩ t => ⟨.cons a (each_vals t).1, .cons b (each_vals t).2⟩
def rSortD (K : PySem.W.Frag) : List V → Hp → VK → Prop := fun vs H Q => ∃ (O : List Addr) (a : Addr) (xs : List V) (ds : List MP.D), vs = [V.ref a] ∧ SqL K H a xs ∧ RpAll K O H xs ds ∧ okSort ds = true ∧
  ∀ (ys : List V) (p : Addr), RpAll K O H ys (sortD ds) → H p = none → Q (.ref p) (upd H p (.lst ys))
theorem cr_sortD (hu : X.A.units + 65 < cLine) : CallR X (.builtin "sorted") (rSortD X.K) := by
  intro pins s σ H vs us Q I r h
  obtain ⟨O, a, xs, ds, rfl, hs, hr, ok, q⟩ := h
  obtain ⟨ok1, ok2⟩ := Bool.and_eq_true_iff.mp ok
  obtain ⟨ok2, ok3⟩ := Bool.and_eq_true_iff.mp ok2
  obtain ⟨ok3, ok4⟩ := Bool.and_eq_true_iff.mp ok3
  have hlen : ds.length ≤ line := of_decide_eq_true ok1
  obtain ⟨its, rv, hl, hz⟩ := I.list hs
  rw [Vals.ref1 r]
  have hxl := hr.length
  have hfl : flatL ds = true := by
    have : ∀ l : List MP.D, l.all small = true → flatL l = true := fun l => by
      induction l with
      | nil => intro _; simp [flatL]
      | cons x l ih =>
        intro h
        simp only [List.all_cons, Bool.and_eq_true] at h
        simp [flatL, (small_depth h.1).1, ih h.2]
    exact this ds ok2
  obtain ⟨as, rd⟩ := Dp.readsAll I ds xs its (hr.dp hfl) rv
  have ez : (xs.zip ds).map (·.2) = ds := List.map_snd_zip (by omega)
  have el : (xs.zip ds).length = ds.length := by rw [List.length_zip]; omega
  refine PySem.W.sorted_data (bs := xs.zip ds) (enc := fun b => b.2) (R := fun u (b : V × MP.D) => RelV b.1 u ∧ Rp X.K O H b.1 b.2) hl.isList (each_zip hr rv) (each_reads hxl rd) (by rw [ez]; exact alikeL_ok ok3) (by rw [ez]; exact sortable_ok ok4) (by rw [el]; exact line_le hlen) (fun b hb => ?_) fun out hol ho => ?_
  · have hm : b.2 ∈ ds := by rw [← ez]; exact List.mem_map.mpr ⟨b, hb, rfl⟩
    have := (small_depth (List.all_eq_true.mp ok2 _ hm)).2.2
    omega
  · obtain ⟨h1, h2⟩ := each_vals ho
    have em : ((xs.zip ds).mergeSort (PySem.W.dataLe false fun b => b.2)).map (·.2) = sortD ds := by
      unfold sortD
      have q := List.map_mergeSort (f := fun b : V × MP.D => b.2) (l := xs.zip ds) (r := PySem.W.dataLe false fun b : V × MP.D => b.2) (s := PySem.W.dataLe false id) (fun a _ b _ => rfl)
      rw [ez] at q
      exact q
    rw [em] at h2
    obtain ⟨ep, he'⟩ := PyProof.Rows.sortedAll_at s.heap its out.toArray
    have hlen2 : (((xs.zip ds).mergeSort (PySem.W.dataLe false fun b => b.2)).map (·.1)).length ≤ sizeLine := by
      rw [List.length_map, List.length_mergeSort, el]
      exact line_le hlen
    exact ⟨.ref _, upd H (s.heap.objs.size + 1) (.lst _), I.laid (t' := s.toks) (fun _ _ => PyProof.Rows.sortedAll_old) (Nat.le_succ _) ⟨hlen2, out, ep, h1, he'⟩, rfl, q _ _ h2 (I.hok.fresh (Nat.le_succ _))⟩
theorem od_sortD : OpDL K .f (rSortD K) bSort := by
  intro O H vs ds d Q ok r h q
  unfold bSort at h
  split at h
  · rename_i xs
    by_cases e : okSort xs = true
    · rw [if_pos e] at h
      cases h
      obtain ⟨a, ys, rfl, h1, h2⟩ := one_list r
      refine ⟨O, a, ys, xs, rfl, h1, h2, e, fun zs p h3 hp => ?_⟩
      exact q _ _ (same_upd hp) ⟨p, zs, rfl, hp, upd_same, rp_new h3 ok hp⟩
    · rw [if_neg e] at h
      cases h
  · cases h
/-! min, max -/
def minL : List MP.D → Option MP.D
  | [] => none
  | x :: xs => some (PySem.W.minD x xs)
def okMin (xs : List MP.D) : Bool := xs.all small && (alikeL xs && xs.all notN)
def bMinD : List MP.D → Option MP.D
  | [.list xs] => if okMin xs then minL xs else none
  | _ => none
theorem alikeAll_ok {xs : List MP.D} (h : alikeL xs = true) (h2 : xs.all notN = true) : PySem.W.AlikeAll xs := ⟨alikeL_ok h, fun x hx e => by
  have q := List.all_eq_true.mp h2 x hx
  rw [e] at q
  cases q⟩
def rMinD (K : PySem.W.Frag) : List V → Hp → VK → Prop := fun vs H Q => ∃ (O : List Addr) (a : Addr) (xs : List V) (d : MP.D) (ds : List MP.D), vs = [V.ref a] ∧ SqL K H a xs ∧ RpAll K O H xs (d :: ds) ∧ okMin (d :: ds) = true ∧
  ∀ v, Rp K O H v (PySem.W.minD d ds) → Q v H
theorem cr_minD (hc : X.calm = true) (hu : X.A.units + 65 < cLine) : CallR X (.builtin "min") (rMinD X.K) := by
  intro pins s σ H vs us Q I r h
  obtain ⟨O, a, xs, d, ds, rfl, hs, hr, ok, q⟩ := h
  obtain ⟨ok2, ok3⟩ := Bool.and_eq_true_iff.mp ok
  obtain ⟨ok3, ok4⟩ := Bool.and_eq_true_iff.mp ok3
  obtain ⟨its, rv, hl, hz⟩ := I.list hs
  rw [Vals.ref1 r]
  have hxl := hr.length
  have hall : ∀ l : List MP.D, l.all small = true → flatL l = true ∧ PyData.canLayAll0 l = true ∧ PyData.depthAll l ≤ 8 := fun l h => dep_all_depth (dep_ok 8) l h
  obtain ⟨f1, f2, f3⟩ := hall _ ok2
  obtain ⟨as, rd⟩ := Dp.readsAll I (d :: ds) xs its (hr.dp f1) rv
  refine PySem.W.min_list_data (I.ok.hd hc) hl.isList (x := d) (xs := ds) (as := as) (by simpa using rd) (alikeAll_ok ok3 ok4) (by omega) fun i v h' tk bs hi hv hk => ?_
  have hi' : its[i]? = some v := by simpa using hi
  obtain ⟨hlt, e1⟩ := List.getElem?_eq_some_iff.mp hi'
  have hlx : i < xs.length := by rw [rv.length]; exact hlt
  have hld : i < (d :: ds).length := by rw [← hxl]; exact hlx
  obtain ⟨x, hx1, hx2⟩ := hr.get (List.getElem?_eq_getElem hld)
  obtain ⟨u, hu1, hu2⟩ := rv.get hx1
  rw [hi'] at hu1
  cases hu1
  have hsm : small (d :: ds)[i] = true := List.all_eq_true.mp ok2 _ (List.getElem_mem hld)
  obtain ⟨cs, rd2⟩ := Dp.reads I _ x v (hx2.dp (small_depth hsm).1) hu2
  have e : (d :: ds)[i] = PySem.W.minD d ds := SeqAt.Reads.unique _ _ _ _ _ (small_depth hsm).2.1 (PyProof.Rows.Reads.keeps hk rd2) hv
  rw [e] at hx2
  exact ⟨x, H, I.kept (t' := tk) hk, hu2, q x hx2⟩
theorem od_minD : OpDL K .s (rMinD K) bMinD := by
  intro O H vs ds d Q ok r h q
  unfold bMinD at h
  split at h
  · rename_i xs
    by_cases e : okMin xs = true
    · rw [if_pos e] at h
      cases xs with
      | nil => cases h
      | cons x xs =>
        cases h
        obtain ⟨a, ys, rfl, h1, h2⟩ := one_list r
        exact ⟨O, a, ys, x, xs, rfl, h1, h2, e, fun v hv => q _ _ (Same.refl H) hv⟩
    · rw [if_neg e] at h
      cases h
  · cases h
end
section
variable {X : Cx} {W : WX} {l l1 l2 l3 : Lv} {a b c e : Expr} {fa fb fc : E} {pos p : Pos} {es : List Expr} {fe : EL}
theorem j_sortF (hu : X.A.units + 65 < cLine) (hm : X.mg "sorted" = none) (hgl : Gl X "sorted") (ha : JA .w X W (e :: es) fe) (he : starEach (e :: es) X.env = (false, eval e X.env) :: starEach es X.env := by rfl) (hpl : (backTo pos (starEach es X.env)).any (·.1) = false := by rfl) :
    JE .f X W (.Call (.Name "sorted" p) (e :: es) [] pos) (eFn (rB bSort) fe) := j_bi (cr_sortD hu) od_sortD hm PyProof.Rows.boot_sorted hgl ha (by decide) (by decide) he hpl
theorem j_minDF (hc : X.calm = true) (hu : X.A.units + 65 < cLine) (hm : X.mg "min" = none) (hgl : Gl X "min") (ha : JA .w X W (e :: es) fe) (he : starEach (e :: es) X.env = (false, eval e X.env) :: starEach es X.env := by rfl) (hpl : (backTo pos (starEach es X.env)).any (·.1) = false := by rfl) :
    JE .s X W (.Call (.Name "min" p) (e :: es) [] pos) (eFn (rB bMinD) fe) := j_bi (cr_minD hc hu) od_minD hm PyProof.Rows.boot_min hgl ha (by decide) (by decide) he hpl
end
end MP

set_option Elab.async false
set_option linter.all false
set_option maxRecDepth 100000
namespace MP
open PySem PySem.Spec PyProof.Rows L2
/-! ### a < b of data -/
def gLtD (d e : MP.D) : Option MP.D := if small d && (small e && (PySem.W.alike d e && notN d)) then some (.bool (PySem.W.dataLt d e)) else none
section
variable {X : Cx} {K : PySem.W.Frag}
def rLtD (K : PySem.W.Frag) : R2 := fun x y H Q => ∃ d e, Dp K H x d ∧ Dp K H y e ∧ PySem.W.alike d e = true ∧ d ≠ .none ∧ d.depth ≤ 8 ∧ Q (.bl (PySem.W.dataLt d e)) H
theorem op_ltD (hu : X.A.units + 65 < cLine) : OpR X (compareOp .Lt) (rLtD X.K) := by
  intro pins s σ H x y v u Q I rx ry h
  obtain ⟨d, e, hd, he, ha, hn, hz, q⟩ := h
  obtain ⟨as, r1⟩ := Dp.reads I d x v hd rx
  obtain ⟨bs, r2⟩ := Dp.reads I e y u he ry
  exact PySem.W.rcLt_alike d e X.A s v u as bs r1 r2 ha hn (by have := Nat.min_le_left d.depth e.depth; omega) X.prog X.w _ _ ⟨.bl _, H, I, rfl, q⟩
theorem od_ltD : OpD K .s (rLtD K) gLtD := by
  intro O H x y dx dy d Q ok rx ry hg q
  unfold gLtD at hg
  by_cases e : (small dx && (small dy && (PySem.W.alike dx dy && notN dx))) = true
  · rw [if_pos e] at hg
    cases hg
    obtain ⟨e1, e2⟩ := Bool.and_eq_true_iff.mp e
    obtain ⟨e2, e3⟩ := Bool.and_eq_true_iff.mp e2
    obtain ⟨e3, e4⟩ := Bool.and_eq_true_iff.mp e3
    refine ⟨dx, dy, (small_dp rx e1).1, (small_dp ry e2).1, e3, fun z => ?_, (small_depth e1).2.2, q H _ (Same.refl H) .of_bl⟩
    rw [z] at e4
    cases e4
  · rw [if_neg e] at hg
    cases hg
theorem c_ltD (hu : X.A.units + 65 < cLine) : CmpK X .Lt gLtD := ⟨_, op_ltD hu, od_ltD⟩
end
end MP

set_option Elab.async false
set_option linter.all false
set_option maxRecDepth 100000
namespace MP
open PySem PySem.Spec PyProof.Rows L2
/-! ### [f, g][i](..): one of some defs -/
def eSel (gs : List (List MP.D → Option Res)) (fi : E) (fe : EL) : E := fun m => bnd (fi m) fun i => match i with
  | .int n => (match atI gs n with
    | some g => bndL (fe m) g
    | none => none)
  | _ => none
def FnHeld (X : Cx) (k : Nat) (f : Addr) (g : List MP.D → Option Res) : Prop := ∃ fd ps, PySem.W.keepIn X.K (.ref f) = true ∧ Binds X.K fd ps [] ∧ FnOk X.prog X.w X.K X.mg X.base (L2.CX X.prog X.w) k f fd ps (spD X.K X.mg g)
structure JN (X : Cx) (k : Nat) (ns : List Expr) (gs : List (List MP.D → Option Res)) : Prop where
  ex : ∃ fs : List Addr, PA X ns (fun _ H Q => Q (fs.map V.ref) H) ∧ fs.length = gs.length ∧ ∀ (i : Nat) (g : List MP.D → Option Res), gs[i]? = some g → ∃ f, fs[i]? = some f ∧ FnHeld X k f g
section
variable {X : Cx} {W : WX} {l l1 l2 l3 : Lv} {a b c e : Expr} {fa fb fc fi : E} {pos p p1 p2 p3 : Pos} {es ns : List Expr} {fe : EL} {k : Nat} {x : Str} {g : List MP.D → Option Res} {gs : List (List MP.D → Option Res)}
theorem jn_nil : JN X k [] [] := ⟨[], PA.imp pa_nil fun _ _ _ q => q, rfl, fun i g h => by simp at h⟩
theorem jn_cons (d : Df X.prog X.w X.K X.mg X.base k x g) (hg : Gl X x) (t : JN X k ns gs) (hdb : (x == ("__debug__" : Str)) = false := by decide)
    (hs : starEach ((.Name x p : Expr) :: ns) X.env = (false, eval (.Name x p) X.env) :: starEach ns X.env := by rfl) : JN X k (.Name x p :: ns) (g :: gs) := by
  obtain ⟨f, fd, ps, h1, h2, h3, h4⟩ := d.ex
  obtain ⟨fs, q1, q2, q3⟩ := t.ex
  refine ⟨f :: fs, PA.imp (pa_cons (pe_glob (v := .ref f) hg h1 rfl hdb) q1 hs) fun σ H Q q => ?_, by simp [q2], fun i g' h => ?_⟩
  · exact q
  · cases i with
    | zero =>
      simp at h
      subst h
      exact ⟨f, rfl, fd, ps, h2, h3, h4⟩
    | succ i =>
      obtain ⟨f', e1, e2⟩ := q3 i g' (by simpa using h)
      exact ⟨f', by simpa using e1, e2⟩
theorem j_sel {e : Expr} (n : JN X k ns gs) (tk : Takes X W) (hr : Room k X.A) (hi : JE l1 X W b fi) (hx : PlainIx b) (ha : JA .s X W (e :: es) fe) (hlen : gs.length ≤ 1000)
    (he : starEach (e :: es) X.env = (false, eval e X.env) :: starEach es X.env := by rfl) (hpl : (backTo pos (starEach es X.env)).any (·.1) = false := by rfl) :
    JE .s X W (.Call (.Subscript (.List ns p1) b p2) (e :: es) [] pos) (eSel gs fi fe) := by
  obtain ⟨fs, q1, q2, q3⟩ := n.ex
  refine ⟨⟨fun pins s σ H Q I h => ?_⟩⟩
  obtain ⟨O, m, rf, q⟩ := h
  show wpAny _ _ (do callWith pos (← eval (.Subscript (.List ns p1) b p2) X.env) [] (backTo pos (starEach (e :: es) X.env)) (backToKw pos (keywordEach [] X.env))) _ _ _
  refine wpAny_bind (thn ((pe_ix (pos := p2) ix_seq (pe_lst (pos := p1) q1) hi.pe hx).run pins s σ H (fun v H1 => ∃ f g, v = .ref f ∧ Same H H1 ∧ FnHeld X k f g ∧
    (match bndL (fe m) g with
      | some (.ok d) => ∀ H' v, Same H H' → Rv .s X.K O H H' v d → Q v H'
      | some (.exc c) => ∀ H' C, Same H H' → X.mg c = some (.ref C) → W (.ref C) none σ H'
      | none => False)) I ?_) fun u s1 ⟨v, H1, I1, r1, f, g, hv, e1, hf, q⟩ => ?_)
  · refine ⟨Nat.le_trans (by rw [List.length_map, q2]; exact hlen) (by decide), fun pL hp => ?_⟩
    have eL : Same H (upd H pL (.lst (fs.map V.ref))) := same_upd hp
    refine ⟨O, m, rf.same eL, ?_⟩
    unfold eSel at q
    cases hfi : fi m with
    | none => rw [hfi] at q; exact q
    | some z =>
      rw [hfi] at q
      cases z with
      | exc c => exact fun H' C e2 e3 => q H' C (eL.trans e2) e3
      | ok d =>
        intro H2 y e2 ry
        dsimp only [bnd] at q
        have e3 : Same H H2 := eL.trans e2
        cases d with
        | int i =>
          dsimp only at q
          cases hat : atI gs i with
          | none => rw [hat] at q; exact q.elim
          | some g =>
            rw [hat] at q
            dsimp only at q
            have hy : y = .int i := rp1_int (Rv.rp1 ry (rf.ok.same eL))
            unfold atI at hat
            cases hix : ixN gs.length i with
            | none => rw [hix] at hat; cases hat
            | some j =>
              rw [hix] at hat
              obtain ⟨f, f1, f2⟩ := q3 j g hat
              refine .inl ⟨pL, fs.map V.ref, i, .ref f, rfl, hy, .inl (.inl (e2 _ _ (upd_same ..))), ?_, f, g, rfl, e3, f2, q⟩
              unfold atI
              rw [List.length_map, q2, hix]
              show (fs.map V.ref)[j]? = _
              rw [List.getElem?_map, f1]
              rfl
        | _ => exact q.elim
  · subst hv
    cases r1
    obtain ⟨fd, ps, h2, h3, h4⟩ := hf
    refine PySem.W.callWith_K (h₀ := X.base) I1.ok.mod.kin h2 (thn (ha.run pos pins s1 σ H1 (fun vs H2 => spD X.K X.mg g vs H2 Q (WE W σ)) I1 ?_) fun us s2 ⟨vs, H2, I2, r, q⟩ => ⟨I2.kIn, ?_⟩) he hpl
    · refine ⟨O, m, rf.same e1, ?_⟩
      cases hf : fe m with
      | none => rw [hf] at q; exact q
      | some z =>
        rw [hf] at q
        cases z with
        | exc c => exact fun H' C e2 e3 => q H' C (e1.trans e2) e3
        | ok ds =>
          intro H2 vs e2 r2
          dsimp only [bndL] at q
          refine ⟨O, ds, rf.ok.same (e1.trans e2), r2, ?_⟩
          cases hg : g ds with
          | none => rw [hg] at q; exact q
          | some z =>
            rw [hg] at q
            cases z with
            | exc c => exact fun H' C e4 e5 => q H' C ((e1.trans e2).trans e4) e5
            | ok d => exact fun H' v e4 r4 => q H' v ((e1.trans e2).trans e4) r4
    · exact run_fnSD (dvs := []) (ds := []) (E := WE W) h4 hr h3 .nil (passAt tk σ) I2 r (by rw [List.append_nil]; exact q)
end
end MP

set_option Elab.async false
set_option linter.all false
set_option maxRecDepth 100000
namespace MP
open PySem PySem.Spec PyProof.Rows L2
section
variable {X : Cx} {W : WX} {l l1 l2 l3 : Lv} {tg a b c e : Expr} {fa fb fc : E} {pos p : Pos} {es : List Expr} {fe : EL}
theorem num_get {xs : List MP.D} {i : Nat} {d : MP.D} (h : (numbered xs)[i]? = some d) : ∃ x, xs[i]? = some x ∧ d = .tuple [.int (i : Nat), x] := by
  unfold numbered at h
  rw [List.getElem?_map] at h
  cases hz : xs.zipIdx[i]? with
  | none => rw [hz] at h; cases h
  | some z =>
    rw [hz] at h
    rw [List.getElem?_zipIdx] at hz
    cases hx : xs[i]? with
    | none => rw [hx] at hz; cases hz
    | some x =>
      rw [hx] at hz
      cases hz
      refine ⟨x, rfl, ?_⟩
      have := (Option.some.inj h).symm
      simpa using this
theorem i_enum {elts : List Expr} {kk : Nat} {tpos : Pos} (hg : Gl X "enumerate") (hm : X.mg "enumerate" = none) (ha : JE l X W a fa) (hl : l ≠ .f) (hs : starEach [a] X.env = [(false, eval a X.env)] := by rfl) :
    JI l X W (.Tuple elts kk tpos) (.Call (.Name "enumerate" p) [a] [] pos) (iEnum' fa) := by
  refine ⟨PI.imp (pi_enum hg hm (pa_cons ha.pe pa_nil hs) hs) ?_⟩
  intro σ H R ⟨O, m, rf, q⟩
  refine ⟨O, m, rf, ?_⟩
  unfold iEnum' at q
  cases hf : fa m with
  | none => rw [hf] at q; exact q.elim
  | some z =>
    rw [hf] at q
    cases z with
    | exc c => exact q
    | ok d =>
      intro H1 v s1 r1
      cases d with
      | list xs =>
        dsimp only at q
        have ok1 := rf.ok.same s1
        obtain ⟨a1, rfl, ⟨zs, hz⟩, w1⟩ := list_rch r1 hl ok1
        refine ⟨a1, zs, rfl, hz, q H1 _ s1 ⟨fun O' H' i d hr hd => ?_, fun O' H' i hr hi => ?_⟩⟩
        · obtain ⟨x, h1, rfl⟩ := num_get hd
          obtain ⟨us, q1, q2⟩ := w1 O' H' hr
          obtain ⟨u, g1, g2⟩ := q2.get h1
          refine ⟨⟨us, u, q1, g1⟩, fun z H2 hy => ?_⟩
          obtain ⟨T, x', rfl, hT, rfl, e1⟩ := hy
          have i1 := e1 us q1
          rw [g1] at i1
          cases i1
          exact ⟨same_upd hT, .tup upd_same (.cons (.int _) (.cons (g2.same (same_upd hT)) .nil))⟩
        · obtain ⟨us, q1, q2⟩ := w1 O' H' hr
          refine ⟨us, q1, ?_⟩
          rw [q2.length]
          simpa [numbered] using hi
      | none => exact q.elim
      | bool i => exact q.elim
      | str i => exact q.elim
      | int i => exact q.elim
      | tuple i => exact q.elim
      | dict i => exact q.elim
end
end MP

set_option Elab.async false
set_option linter.all false
set_option maxRecDepth 100000
namespace MP
open PySem PySem.Spec PyProof.Rows L2
/-! ### dicts: entries by their keys -/
def keyOf : MP.D → Option Key
  | .int i => some (.inl i)
  | .str x => some (.inr x)
  | _ => none
def keysOf : List MP.D → Option (List Key)
  | [] => some []
  | d :: ds => match keyOf d, keysOf ds with
    | some k, some ks => some (k :: ks)
    | _, _ => none
theorem keyOf_eq {d : MP.D} {k : Key} (h : keyOf d = some k) : d = keyD k := by
  cases d <;> simp [keyOf] at h <;> subst h <;> rfl
theorem keysOf_eq : ∀ {ds : List MP.D} {ks : List Key}, keysOf ds = some ks → ds = ks.map keyD
  | [], ks, h => by simp [keysOf] at h; subst h; rfl
  | d :: ds, ks, h => by
    unfold keysOf at h
    split at h
    · rename_i k ks' h1 h2
      cases h
      rw [keyOf_eq h1, keysOf_eq h2]
      rfl
    · cases h
theorem eqv_keyD {a b : Key} : PyData.eqv (keyD a) (keyD b) = decide (a = b) := by
  cases a with
  | inl i => cases b with
    | inl j =>
      show PyData.eqv (.int i) (.int j) = _
      rw [Bool.eq_iff_iff]
      simp [PyData.eqv]
    | inr y => show PyData.eqv (.int i) (.str y) = _; simp [PyData.eqv]
  | inr x => cases b with
    | inl j => show PyData.eqv (.str x) (.int j) = _; simp [PyData.eqv]
    | inr y =>
      show PyData.eqv (.str x) (.str y) = _
      rw [Bool.eq_iff_iff]
      simp [PyData.eqv]
theorem eqvAll_keys : ∀ {a b : List Key}, PyData.eqvAll (a.map keyD) (b.map keyD) = decide (a = b)
  | [], [] => by simp [PyData.eqvAll]
  | [], _ :: _ => by simp [PyData.eqvAll]
  | _ :: _, [] => by simp [PyData.eqvAll]
  | x :: a, y :: b => by
    rw [List.map_cons, List.map_cons]
    simp only [PyData.eqvAll, eqv_keyD, eqvAll_keys (a := a) (b := b)]
    rw [Bool.eq_iff_iff]
    simp
theorem eqv_tupKey {a b : List Key} : PyData.eqv (.tuple (a.map keyD)) (.tuple (b.map keyD)) = decide (a = b) := by
  simp only [PyData.eqv]
  exact eqvAll_keys
/-- what stands at a key -/
def valT (ds : List (MP.D × MP.D)) (k : MP.D) : Option MP.D := (ds.find? fun e => PyData.eqv e.1 k).map (·.2)
def putT (ds : List (MP.D × MP.D)) (k d : MP.D) : List (MP.D × MP.D) := if (ds.any fun e => PyData.eqv e.1 k) = true then ds.map (fun e => if PyData.eqv e.1 k = true then (e.1, d) else e) else ds ++ [(k, d)]
section
variable {K : PySem.W.Frag} {O : List Addr} {H : Hp}
theorem RpT.length : ∀ {kvs : List (List Key × V)} {ds : List (MP.D × MP.D)}, RpT K O H kvs ds → kvs.length = ds.length
  | _, _, .nil => rfl
  | _, _, .cons _ b => by simp [RpT.length b]
theorem RpK.length : ∀ {kvs : List (Key × V)} {ds : List (MP.D × MP.D)}, RpK K O H kvs ds → kvs.length = ds.length
  | _, _, .nil => rfl
  | _, _, .cons _ b => by simp [RpK.length b]
theorem RpT.any : ∀ {kvs : List (List Key × V)} {ds : List (MP.D × MP.D)} (k : List Key), RpT K O H kvs ds → (ds.any fun e => PyData.eqv e.1 (.tuple (k.map keyD))) = (kvs.any fun kv => decide (kv.1 = k))
  | _, _, _, .nil => rfl
  | _, _, k, .cons a b => by
    simp only [List.any_cons, eqv_tupKey, RpT.any k b]
theorem RpK.any : ∀ {kvs : List (Key × V)} {ds : List (MP.D × MP.D)} (k : Key), RpK K O H kvs ds → (ds.any fun e => PyData.eqv e.1 (keyD k)) = (kvs.any fun kv => decide (kv.1 = k))
  | _, _, _, .nil => rfl
  | _, _, k, .cons a b => by
    simp only [List.any_cons, eqv_keyD, RpK.any k b]
theorem RpT.val : ∀ {kvs : List (List Key × V)} {ds : List (MP.D × MP.D)} {k : List Key} {d : MP.D}, RpT K O H kvs ds → valT ds (.tuple (k.map keyD)) = some d → ∃ v, valV kvs k = some v ∧ Rp K O H v d
  | _, _, k, d, .nil, h => by simp [valT] at h
  | _, _, k, d, .cons (k := k') (v := v) (d := d') a b, h => by
    unfold valT at h
    rw [List.find?_cons] at h
    by_cases e : k' = k
    · have e' : PyData.eqv (.tuple (k'.map keyD)) (.tuple (k.map keyD)) = true := by rw [eqv_tupKey]; simp [e]
      simp only [e'] at h
      cases h
      exact ⟨v, valV_pos (p := (k', v)) e, a⟩
    · have e' : PyData.eqv (.tuple (k'.map keyD)) (.tuple (k.map keyD)) = false := by rw [eqv_tupKey]; simp [e]
      simp only [e'] at h
      obtain ⟨u, h1, h2⟩ := RpT.val b h
      exact ⟨u, by rw [valV_neg (p := (k', v)) e]; exact h1, h2⟩
theorem RpK.val : ∀ {kvs : List (Key × V)} {ds : List (MP.D × MP.D)} {k : Key} {d : MP.D}, RpK K O H kvs ds → valT ds (keyD k) = some d → ∃ v, valV kvs k = some v ∧ Rp K O H v d
  | _, _, k, d, .nil, h => by simp [valT] at h
  | _, _, k, d, .cons (k := k') (v := v) (d := d') a b, h => by
    unfold valT at h
    rw [List.find?_cons] at h
    by_cases e : k' = k
    · have e' : PyData.eqv (keyD k') (keyD k) = true := by rw [eqv_keyD]; simp [e]
      simp only [e'] at h
      cases h
      exact ⟨v, valV_pos (p := (k', v)) e, a⟩
    · have e' : PyData.eqv (keyD k') (keyD k) = false := by rw [eqv_keyD]; simp [e]
      simp only [e'] at h
      obtain ⟨u, h1, h2⟩ := RpK.val b h
      exact ⟨u, by rw [valV_neg (p := (k', v)) e]; exact h1, h2⟩
theorem RpT.app : ∀ {kvs : List (List Key × V)} {ds : List (MP.D × MP.D)} {k : List Key} {v : V} {d : MP.D}, RpT K O H kvs ds → Rp K O H v d → RpT K O H (kvs ++ [(k, v)]) (ds ++ [(.tuple (k.map keyD), d)])
  | _, _, k, v, d, .nil, h => .cons h .nil
  | _, _, k, v, d, .cons a b, h => .cons a (RpT.app b h)
theorem RpK.app : ∀ {kvs : List (Key × V)} {ds : List (MP.D × MP.D)} {k : Key} {v : V} {d : MP.D}, RpK K O H kvs ds → Rp K O H v d → RpK K O H (kvs ++ [(k, v)]) (ds ++ [(keyD k, d)])
  | _, _, k, v, d, .nil, h => .cons h .nil
  | _, _, k, v, d, .cons a b, h => .cons a (RpK.app b h)
theorem RpT.chg {k : List Key} {v : V} {d : MP.D} (h : Rp K O H v d) : ∀ {kvs : List (List Key × V)} {ds : List (MP.D × MP.D)}, RpT K O H kvs ds →
    RpT K O H (kvs.map fun kv => if kv.1 = k then (kv.1, v) else kv) (ds.map fun e => if PyData.eqv e.1 (.tuple (k.map keyD)) = true then (e.1, d) else e)
  | _, _, .nil => .nil
  | _, _, .cons (k := k') a b => by
    rw [List.map_cons, List.map_cons]
    by_cases e : k' = k
    · have e' : PyData.eqv (.tuple (k'.map keyD)) (.tuple (k.map keyD)) = true := by rw [eqv_tupKey]; simp [e]
      simp only [if_pos e, if_pos e']
      exact .cons h (RpT.chg h b)
    · have e' : ¬ PyData.eqv (.tuple (k'.map keyD)) (.tuple (k.map keyD)) = true := by rw [eqv_tupKey]; simp [e]
      simp only [if_neg e, if_neg e']
      exact .cons a (RpT.chg h b)
theorem RpK.chg {k : Key} {v : V} {d : MP.D} (h : Rp K O H v d) : ∀ {kvs : List (Key × V)} {ds : List (MP.D × MP.D)}, RpK K O H kvs ds →
    RpK K O H (kvs.map fun kv => if kv.1 = k then (kv.1, v) else kv) (ds.map fun e => if PyData.eqv e.1 (keyD k) = true then (e.1, d) else e)
  | _, _, .nil => .nil
  | _, _, .cons (k := k') a b => by
    rw [List.map_cons, List.map_cons]
    by_cases e : k' = k
    · have e' : PyData.eqv (keyD k') (keyD k) = true := by rw [eqv_keyD]; simp [e]
      simp only [if_pos e, if_pos e']
      exact .cons h (RpK.chg h b)
    · have e' : ¬ PyData.eqv (keyD k') (keyD k) = true := by rw [eqv_keyD]; simp [e]
      simp only [if_neg e, if_neg e']
      exact .cons a (RpK.chg h b)
theorem RpT.put {kvs : List (List Key × V)} {ds : List (MP.D × MP.D)} {k : List Key} {v : V} {d : MP.D} (r : RpT K O H kvs ds) (h : Rp K O H v d) : RpT K O H (putK kvs k v) (putT ds (.tuple (k.map keyD)) d) := by
  unfold putK putT
  rw [r.any k]
  by_cases e : (kvs.any fun kv => decide (kv.1 = k)) = true
  · rw [if_pos e, if_pos e]; exact r.chg h
  · rw [if_neg e, if_neg e]; exact r.app h
theorem RpK.put {kvs : List (Key × V)} {ds : List (MP.D × MP.D)} {k : Key} {v : V} {d : MP.D} (r : RpK K O H kvs ds) (h : Rp K O H v d) : RpK K O H (putK kvs k v) (putT ds (keyD k) d) := by
  unfold putK putT
  rw [r.any k]
  by_cases e : (kvs.any fun kv => decide (kv.1 = k)) = true
  · rw [if_pos e, if_pos e]; exact r.chg h
  · rw [if_neg e, if_neg e]; exact r.app h
end
/-! ### statements: a new dict, an entry, the end of its change -/
def sDNew (i : Nat) : S := fun m => some (.nx (m.set i (.odc [])))
section
variable {X : Cx} {W : WX} {F : List Addr} {l l1 l2 l3 : Lv} {a b c e : Expr} {fa fb fc : E} {f g : S} {pos p p' p1 p2 p3 : Pos} {st : Stmt} {es : List Expr} {fe : EL} {i : Nat} {x : Str}
theorem s_dnewT (hN : X.N.Nodup) (hi : X.N[i]? = some x) (hx : Loc X.env.scope x) (hf : X.fn x = true ∨ X.env.scope.names.lookup x = some .local) (hs : swapsWith (.Dict [] [] p) (some (.Name x p')) pos.line X.env = pure false := by rfl) :
    JS X W F (.Assign [.Name x p'] (.Dict [] [] p) pos) (sDNew i) := by
  refine ⟨PS.imp (ps_set hN hi hx pe_dnewT hs hf) ?_⟩
  intro D σ H ⟨O, m, r, q⟩ a h0
  obtain ⟨r1, f1, n1, nF⟩ := r.grow (same_upd h0) h0 upd_same (.inr (.inr ⟨[], rfl⟩))
  exact q _ _ _ (r1.setC List.mem_cons_self nF (.inr ⟨[], upd_same, .nil⟩) n1 i) f1
theorem s_dnewK (hN : X.N.Nodup) (hi : X.N[i]? = some x) (hx : Loc X.env.scope x) (hf : X.fn x = true ∨ X.env.scope.names.lookup x = some .local) (hs : swapsWith (.Dict [] [] p) (some (.Name x p')) pos.line X.env = pure false := by rfl) :
    JS X W F (.Assign [.Name x p'] (.Dict [] [] p) pos) (sDNew i) := by
  refine ⟨PS.imp (ps_set hN hi hx pe_dnewK hs hf) ?_⟩
  intro D σ H ⟨O, m, r, q⟩ a h0
  obtain ⟨r1, f1, n1, nF⟩ := r.grow (same_upd h0) h0 upd_same (.inr (.inl ⟨[], rfl⟩))
  exact q _ _ _ (r1.setC List.mem_cons_self nF (.inl ⟨[], upd_same, .nil⟩) n1 i) f1
theorem set_same {σ : L2.St} {i : Nat} {v : V} (h : σ[i]? = some (some v)) : σ.set i (some v) = σ := by
  apply List.ext_getElem?
  intro j
  rw [getset]
  by_cases e : i = j
  · subst e; rw [if_pos rfl, if_pos (List.getElem?_eq_some_iff.mp h).1, h]
  · rw [if_neg e]
def allTup (ds : List (MP.D × MP.D)) : Bool := ds.all fun e => match e.1 with
  | .tuple _ => true
  | _ => false
def allFlat (ds : List (MP.D × MP.D)) : Bool := ds.all fun e => match e.1 with
  | .tuple _ => false
  | _ => true
theorem RpK.notTup {K : PySem.W.Frag} {O : List Addr} {H : Hp} {kvs : List (Key × V)} {ds : List (MP.D × MP.D)} (r : RpK K O H kvs ds) (h : allTup ds = true) : kvs = [] ∧ ds = [] := by
  cases r with
  | nil => exact ⟨rfl, rfl⟩
  | cons a b =>
    rename_i k _ _ _ _
    cases k <;> simp [allTup, keyD] at h
theorem RpT.notFlat {K : PySem.W.Frag} {O : List Addr} {H : Hp} {kvs : List (List Key × V)} {ds : List (MP.D × MP.D)} (r : RpT K O H kvs ds) (h : allFlat ds = true) : kvs = [] ∧ ds = [] := by
  cases r with
  | nil => exact ⟨rfl, rfl⟩
  | cons a b => simp [allFlat] at h
/-! an empty dict may take keys of either kind -/
theorem Inv.asT {pins : List (Addr × Obj)} {σ : L2.St} {H : Hp} {s : Shared} {a : Addr} (I : L2.Inv X pins σ H s) (h : H a = some (.dK [])) : L2.Inv X pins σ (upd H a (.dT [])) s := by
  obtain ⟨z, hd, vs, rel, o, es, ep, h1, h2, h3, h4, h5, h6⟩ := (show ObjOk X.prog X.w H s.heap a (.dK []) from I.hok a _ h)
  cases rel
  have e0 : es.toList = [] := by
    generalize es.toList = l at h5
    cases h5
    rfl
  exact d_write (h' := s.heap) (t' := s.toks) I (by rw [h]; exact True.intro) ⟨rfl, fun b hb => rfl⟩ ⟨o, h1⟩ ⟨Nat.zero_le _, hd, [], .nil, o, es, ep, h1, h2, h3, e0, List.nodup_nil⟩
/-- found[(..)] = e -/
def sDPutT (i : Nat) (fk : EL) (fv : E) : S := fun m => match m[i]? with
  | some (.odc ds) => if allTup ds then (bndS (fv m) m fun d => match fk m with
    | some (.ok ks) => if allTup ds && ((keysOf ks).isSome && (decide (ks.length ≤ 1000) && decide (ds.length < line))) then some (.nx (m.set i (.odc (putT ds (.tuple ks) d)))) else none
    | some (.exc c) => none
    | none => none) else none
  | _ => none
theorem ps_asT {st : Stmt} {t : TS} (h : PS X st t) (a : Addr) : PS X st (fun D σ H => t D σ H ∨ (H a = some (.dK []) ∧ t D σ (upd H a (.dT [])))) := by
  refine ⟨fun pins s σ H D I hw => ?_⟩
  rcases hw with hw | ⟨h1, hw⟩
  · exact h.run pins s σ H D I hw
  · exact h.run pins s σ _ D (Inv.asT I h1) hw
theorem ps_asTE {st : Stmt} {t : TS} (h : PS X st t) : PS X st (fun D σ H => t D σ H ∨ ∃ a, H a = some (.dK []) ∧ t D σ (upd H a (.dT []))) := by
  refine ⟨fun pins s σ H D I hw => ?_⟩
  rcases hw with hw | ⟨a, h1, hw⟩
  · exact h.run pins s σ H D I hw
  · exact h.run pins s σ _ D (Inv.asT I h1) hw
theorem upd_upd {H : Hp} {a : Addr} {u v : HO} : upd (upd H a u) a v = upd H a v := by
  funext b
  by_cases e : b = a
  · subst e; rw [upd_same, upd_same]
  · rw [upd_ne e, upd_ne e, upd_ne e]
theorem rpAll_keys {K : PySem.W.Frag} {O : List Addr} {H : Hp} : ∀ {ks : List Key} {vs : List V}, RpAll K O H vs (ks.map keyD) → vs = ks.map kV
  | [], _, h => by cases h; rfl
  | k :: ks, _, h => by
    rw [List.map_cons] at h
    cases h with
    | cons a b =>
      rw [rpAll_keys b]
      cases k with
      | inl i => cases (show Rp K O H _ (.int i) from a); rfl
      | inr x => cases (show Rp K O H _ (.str x) from a); rfl
/-- the store into a dict of tuple keys -/
theorem dput_core {D : Ends} {σ : L2.St} {H : Hp} {O : List Addr} {m : En} {fk : EL} {fv : E} {a : Addr} {kvs : List (List Key × V)} {ds : List (MP.D × MP.D)} (r : RefS X F O m σ H) (hm : m[i]? = some (.odc ds)) (e1 : σ[i]? = some (some (.ref a))) (e2 : a ∈ O) (e3 : H a = some (.dT kvs)) (e4 : RpT X.K O H kvs ds)
    (q : Post X W F O H D (bndS (fv m) m fun d => match fk m with
      | some (.ok ks) => if allTup ds && ((keysOf ks).isSome && (decide (ks.length ≤ 1000) && decide (ds.length < line))) then some (.nx (m.set i (.odc (putT ds (.tuple ks) d)))) else none
      | some (.exc c) => none
      | none => none)) :
    sDPut (fun σ H Q => ∃ v, σ[i]? = some (some v) ∧ Q v H) (tTup (RdA .s X W fk)) (RdE .s X W fv) D σ H := by
  refine rdS r q fun d H1 v s1 rv q => ?_
  refine ⟨.ref a, e1, ?_⟩
  have r1 := r.same s1
  refine ⟨O, m, r1.r, ?_⟩
  cases hk : fk m with
  | none => rw [hk] at q; exact q.elim
  | some z =>
    rw [hk] at q
    cases z with
    | exc c => exact q.elim
    | ok ks =>
      dsimp only at q
      intro H2 vs s2 rvs
      by_cases hc : (allTup ds && ((keysOf ks).isSome && (decide (ks.length ≤ 1000) && decide (ds.length < line)))) = true
      · rw [if_pos hc] at q
        simp only [Bool.and_eq_true, decide_eq_true_eq] at hc
        obtain ⟨c1, c2, c3, c4⟩ := hc
        obtain ⟨k, hk2⟩ := Option.isSome_iff_exists.mp c2
        have ek := keysOf_eq hk2
        subst ek
        have rvs' : RpAll X.K O H2 vs (k.map keyD) := rvs
        have ev := rpAll_keys rvs'
        subst ev
        refine ⟨Nat.le_trans (by simpa using c3) (by decide), fun T hT => ?_⟩
        have sT : Same H2 (upd H2 T (.tup (k.map kV))) := same_upd hT
        have s3 : Same H1 (upd H2 T (.tup (k.map kV))) := s2.trans sT
        have h3 : (upd H2 T (.tup (k.map kV))) a = some (.dT kvs) := s3 _ _ (s1 _ _ e3)
        refine ⟨a, _, rfl, DPut.t h3 upd_same (by rw [e4.length]; exact line_lt (Nat.le_of_lt c4)), ?_⟩
        have r3 := r1.same s3
        obtain ⟨r4, f4, fre⟩ := r3.chg (o := .dT (putK kvs k v)) i (.inr ⟨_, hm⟩) e1 e2 (.inr (.inr ⟨_, rfl⟩))
        have hx : RpT X.K O (upd (upd H2 T (.tup (k.map kV))) a (.dT (putK kvs k v))) (putK kvs k v) (putT ds (.tuple (k.map keyD)) d) :=
          (((e4.same s1).same s3).put (rv.same s3)).fr ⟨f4, r3.r.ok⟩
        have r5 := r4.setC e2 (r.mine i a (.inr ⟨_, hm⟩) e1) (.inr ⟨_, upd_same, hx⟩) fre i
        rw [set_un_set, set_same e1] at r5
        exact q O σ _ r5 (Fr.trans (Fr.of_same s3) f4)
      · rw [if_neg hc] at q
        exact q.elim
theorem s_dputT {k : Nat} {fk : EL} {fv : E} (hu : X.A.units + 65 < cLine) (hN : X.N[i]? = some x) (hv : Vis X.env.scope x) (hk : JA .s X W es fk) (he : JE .s X W e fv) (hd : (x == ("__debug__" : Str)) = false := by decide) (hcd : (x == ("__classdict__" : Str)) = false := by decide)
    (hs : swapsWith e (some (.Subscript (.Name x p) (.Tuple es k p1) p2)) pos.line X.env = pure false := by rfl) :
    JS X W F (.Assign [.Subscript (.Name x p) (.Tuple es k p1) p2] e pos) (sDPutT i fk fv) := by
  refine ⟨PS.imp (ps_asTE (ps_dput (by omega) (pe_var hN hv hd hcd) (pe_tup hk) he.pe hs)) ?_⟩
  intro D σ H ⟨O, m, r, q⟩
  unfold sDPutT at q
  cases hm : m[i]? with
  | none => rw [hm] at q; exact q.elim
  | some z =>
    rw [hm] at q
    cases z with
    | odc ds =>
      dsimp only at q
      by_cases ht : allTup ds = true
      · rw [if_pos ht] at q
        obtain ⟨a, e1, e2, ⟨kvs, e3, e4⟩ | ⟨kvs, e3, e4⟩⟩ := r.r.odc i ds hm
        · obtain ⟨rfl, rfl⟩ := e4.notTup ht
          right
          refine ⟨a, e3, ?_⟩
          obtain ⟨r4, f4, fre⟩ := r.chg (o := .dT []) i (.inr ⟨_, hm⟩) e1 e2 (.inr (.inr ⟨_, rfl⟩))
          have r5 := r4.setC e2 (r.mine i a (.inr ⟨_, hm⟩) e1) (.inr ⟨[], upd_same, .nil⟩) fre i
          rw [set_un_set, set_same e1] at r5
          have em : m.set i (.odc []) = m := by
            apply List.ext_getElem?
            intro j
            rw [getset]
            by_cases e : i = j
            · subst e; rw [if_pos rfl, if_pos (List.getElem?_eq_some_iff.mp hm).1, hm]
            · rw [if_neg e]
          rw [em] at r5
          exact dput_core r5 hm e1 e2 upd_same .nil (Post.fr q f4)
        · exact .inl (dput_core r hm e1 e2 e3 e4 q)
      · rw [if_neg ht] at q
        exact q.elim
    | own ds => exact q.elim
    | un => exact q.elim
    | dat d => exact q.elim
    | exc c => exact q.elim
/-! ### a dict of our own becomes data: from now on it is locked -/
theorem ps_lockP {st : Stmt} {t : TS} (h : PS X st t) : PS X st (fun D σ H => ∃ d u, H d = some u ∧ Mut (some u) ∧ ∀ od, t D σ (upd H d (.frz od u))) := by
  refine ⟨fun pins s σ H D I hw => ?_⟩
  obtain ⟨d, u, hd, mu, hw⟩ := hw
  obtain ⟨od, I1⟩ := I.lock hd mu
  exact h.run pins s σ _ _ I1 (hw od)
theorem RpT.move {K : PySem.W.Frag} {O O' : List Addr} {H H' : Hp} {kvs : List (List Key × V)} {ds : List (MP.D × MP.D)} (h : RpT K O H kvs ds) (f : Fr O H O' H') (ok : OwnOk O H) : RpT K O' H' kvs ds := h.fr ⟨f, ok⟩
/-- what the state becomes where a dict of ours is locked -/
theorem RefT.lock {O : List Addr} {m : En} {σ : L2.St} {H : Hp} (r : RefS X F O m σ H) {a : Addr} {ds : List (MP.D × MP.D)} (hm : m[i]? = some (.odc ds)) (e1 : σ[i]? = some (some (.ref a))) (e2 : a ∈ O) (u : HO) (od : Obj)
    (hu : (∃ kvs, u = .dK kvs ∧ RpK X.K O H kvs ds) ∨ ∃ kvs, u = .dT kvs ∧ RpT X.K O H kvs ds) :
    RefS X F (O.filter fun b => decide (b ≠ a)) (m.set i (.dat (.dict ds))) σ (upd H a (.frz od u)) ∧ Fr O H (O.filter fun b => decide (b ≠ a)) (upd H a (.frz od u)) := by
  have mem : ∀ b, b ∈ O.filter (fun b => decide (b ≠ a)) ↔ b ∈ O ∧ b ≠ a := fun b => by simp [List.mem_filter]
  have hF : a ∉ F := r.mine i a (.inr ⟨_, hm⟩) e1
  have f : Fr O H (O.filter fun b => decide (b ≠ a)) (upd H a (.frz od u)) := fun b o hb hn => by
    have hne : b ≠ a := fun e => hn (by rw [e]; exact e2)
    exact ⟨by rw [upd_ne hne]; exact hb, fun z => hn ((mem b).mp z).1⟩
  have ne : ∀ j b, i ≠ j → ownAt m j → σ[j]? = some (some (.ref b)) → b ≠ a := fun j b n hj e z => n (r.r.inj i j a (.inr ⟨_, hm⟩) hj e1 (z ▸ e))
  have fk : FrK X.K O H (O.filter fun b => decide (b ≠ a)) (upd H a (.frz od u)) := ⟨f, r.r.ok⟩
  have hd : Rp X.K (O.filter fun b => decide (b ≠ a)) (upd H a (.frz od u)) (.ref a) (.dict ds) := by
    have na : a ∉ O.filter fun b => decide (b ≠ a) := fun z => ((mem a).mp z).2 rfl
    rcases hu with ⟨kvs, rfl, h⟩ | ⟨kvs, rfl, h⟩
    · exact .dK upd_same na (h.fr fk)
    · exact .dT upd_same na (h.fr fk)
  have r1 : RefK X.K X.A.handled (O.filter fun b => decide (b ≠ a)) (m.set i .un) (σ.set i (some (.ref a))) (upd H a (.frz od u)) := by
    have ru := r.r.unset i (some (.ref a))
    refine ⟨ru.len, fun j e q => ?_, fun j es' q => ?_, fun j es' q => ?_, ru.inj, ru.exc, fun b hb => ?_⟩
    · obtain ⟨v, h1, h2⟩ := ru.dat j e q
      exact ⟨v, h1, h2.fr fk⟩
    · rcases setget q with ⟨_, _, z⟩ | ⟨n, q⟩
      · cases z
      · obtain ⟨b, ys, h1, h2, h3, h4⟩ := r.r.own j es' q
        have hba := ne j b n (.inl ⟨_, q⟩) h1
        exact ⟨b, ys, by rw [getset, if_neg n]; exact h1, (mem b).mpr ⟨h2, hba⟩, by rw [upd_ne hba]; exact h3, h4.fr fk⟩
    · rcases setget q with ⟨_, _, z⟩ | ⟨n, q⟩
      · cases z
      · obtain ⟨b, h1, h2, h3⟩ := r.r.odc j es' q
        have hba := ne j b n (.inr ⟨_, q⟩) h1
        refine ⟨b, by rw [getset, if_neg n]; exact h1, (mem b).mpr ⟨h2, hba⟩, ?_⟩
        rcases h3 with ⟨kvs, h3, h4⟩ | ⟨kvs, h3, h4⟩
        · exact .inl ⟨kvs, by rw [upd_ne hba]; exact h3, h4.fr fk⟩
        · exact .inr ⟨kvs, by rw [upd_ne hba]; exact h3, h4.fr fk⟩
    · obtain ⟨h1, h2⟩ := (mem b).mp hb
      rw [upd_ne h2]
      exact r.r.ok b h1
  have r2 := r1.setD hd i
  rw [set_un_set, List.set_set, set_same e1] at r2
  refine ⟨⟨r2, fun b u hb => ?_, fun b hb hn => r.ent b ((mem b).mp hb).1 hn, fun b hb => (mem b).mpr ⟨r.sub b hb, fun z => hF (z ▸ hb)⟩, r.okF, fun j b hj e => ?_⟩, f⟩
  · have hne : b ≠ a := fun e => by
      rw [e, r.ent a e2 hF] at hb
      cases hb
    rw [upd_ne hne]
    exact r.sm _ _ hb
  · obtain ⟨n, hj⟩ := ownAt_set ⟨(fun _ z => by cases z), (fun _ z => by cases z)⟩ hj
    exact r.mine j b hj e
/-- a dict of our own is given away ahead of a statement -/
def sLck (i : Nat) (f : S) : S := fun m => match m[i]? with
  | some (.odc ds) => f (m.set i (.dat (.dict ds)))
  | _ => none
theorem s_lck (i : Nat) (h : JS X W F st f) : JS X W F st (sLck i f) := by
  refine ⟨PS.imp (ps_lockP h.ps) ?_⟩
  intro D σ H ⟨O, m, r, q⟩
  unfold sLck at q
  cases hm : m[i]? with
  | none => rw [hm] at q; exact q.elim
  | some z =>
    rw [hm] at q
    cases z with
    | odc ds =>
      obtain ⟨a, e1, e2, ⟨kvs, e3, e4⟩ | ⟨kvs, e3, e4⟩⟩ := r.r.odc i ds hm
      · refine ⟨a, _, e3, True.intro, fun od => ?_⟩
        obtain ⟨r1, f1⟩ := RefT.lock r hm e1 e2 (.dK kvs) od (.inl ⟨kvs, rfl, e4⟩)
        exact ⟨_, _, r1, Post.fr q f1⟩
      · refine ⟨a, _, e3, True.intro, fun od => ?_⟩
        obtain ⟨r1, f1⟩ := RefT.lock r hm e1 e2 (.dT kvs) od (.inr ⟨kvs, rfl, e4⟩)
        exact ⟨_, _, r1, Post.fr q f1⟩
    | own ds => exact q.elim
    | un => exact q.elim
    | dat d => exact q.elim
    | exc c => exact q.elim
end
end MP

set_option Elab.async false
set_option linter.all false
set_option maxRecDepth 100000
namespace MP
open PySem PySem.Spec PyProof.Rows L2
/-! ### reading a dict -/
def DGetA (K : PySem.W.Frag) (H : Hp) (a : Addr) (y : V) (r : Option V) : Prop :=
  (∃ kvs k, Rd H a (.dK kvs) ∧ y = kV k ∧ r = valV kvs k) ∨ ∃ kvs k b, Rd H a (.dT kvs) ∧ y = .ref b ∧ SqT K H b (k.map kV) ∧ r = valV kvs k
section
variable {X : Cx} {pins : List (Addr × Obj)} {σ : L2.St} {H : Hp} {s : Shared} {a b : Addr} {y v : V} {u r : Value} {o : Option V} {A : Around} {E : Value → Shared → Prop}
theorem key_ofT {k : List Key} (I : L2.Inv X pins σ H s) (h : SqT X.K H b (k.map kV)) : (tupleKind (mixKind X.prog X.w)).is s.heap k b := by
  obtain ⟨its, r, ⟨o, h1, h2, n, h3⟩, z⟩ := I.tuple h
  exact ⟨o, its.toArray, n, h1, h2, h3, by simpa using items_are r⟩
theorem d_getA {Q : Value → Shared → Prop} (hu : A.units + 1 < cLine) (I : L2.Inv X pins σ H s) (g : DGetA X.K H a y (some v)) (ry : RelV y u) (h : ∀ w' s', L2.Inv X pins σ H s' → RelV v w' → Q w' s') :
    wpAny (model X.prog X.w) A (getItem (.ref a) u) Q E s := by
  rcases g with ⟨kvs, k, e, ey, l⟩ | ⟨kvs, k, b, e, ey, eb, l⟩
  · subst ey
    obtain ⟨z, hd, vs, rel, dd⟩ := dk_rd I.hok e
    obtain ⟨w', hw, rw'⟩ := RelO.some_of (v := v) (o := valueAt vs k) (by rw [l]; exact rel.val k)
    exact wpAny_getItem_of (kV_is ry) dd.mapOf hw (h w' _ (I.tok _) rw')
  · subst ey
    cases (show u = Value.ref b from ry)
    obtain ⟨z, hd, xs, rel, dd⟩ := dt_rd I.hok e
    obtain ⟨w', hw, rw'⟩ := RelO.some_of (v := v) (o := (atKey xs k).map (·.2)) (by rw [l]; exact rel.val k)
    obtain ⟨p, hp, hp2⟩ := Option.map_eq_some_iff.mp hw
    refine wpAny_getItem_heap (tupleKind_room_in1 hu) (key_ofT I eb) dd hp ?_
    rw [hp2]
    exact h w' _ (I.tok _) rw'
theorem d_typeA (I : L2.Inv X pins σ H s) (g : DGetA X.K H a y o) : s.TypeIs (.ref a) "dict" := by
  rcases g with ⟨kvs, k, e, _, _⟩ | ⟨kvs, k, b, e, _, _, _⟩
  · obtain ⟨_, _, vs, _, dd⟩ := dk_rd I.hok e
    exact dd.typeIs
  · obtain ⟨_, _, xs, _, dd⟩ := dt_rd I.hok e
    exact dd.typeIs
end
section
variable {prog : Program} {w : World} {A : Around} {E : Value → Shared → Prop} {s : Shared} {β : Type} {R : Value → β → Prop} {enc : β → PyData} {vs : List Value} {bs : List β}
/-- a new list is sorted in its place -/
theorem sort_new {a : Addr} {n : Nat} {Q : Value → Shared → Prop} (ho : s.heap.get? a = some (seqObj "list" vs.toArray n)) (e : PySem.W.EachIs R vs bs) (er : PySem.W.EachIs (fun v b => ∃ as, Reads (PySem.W.sortingHeap s.heap a vs) v (enc b) as) vs bs) (hal : PySem.W.AllAlike (bs.map enc)) (hk : PySem.W.Sortable (bs.map enc)) (hL : bs.length ≤ sizeLine)
    (hu : ∀ b, b ∈ bs → A.units + 1 + (enc b).depth < cLine) (h : ∀ out, out.length = bs.length → PySem.W.EachIs R out (bs.mergeSort (PySem.W.dataLe false enc)) → Q .none { s with heap := PyProof.Rows.sortedHeap s.heap a vs (List.toArray out) }) :
    wpAny (model prog w) A (call (.builtin "list.sort") [.ref a]) Q E s := by
  refine wpAny_call_entry PyProof.Rows.slot_list_sort ⟨_, ho, rfl⟩ PyProof.Rows.entry_list_sort (PySem.W.list_sort_vals (κ := PySem.W.dataKind (PySem.W.sortingHeap s.heap a vs) (bs.map enc)) ho (PySem.W.SortsAt.data (s := { s with heap := PySem.W.sortingHeap s.heap a vs }) (PySem.W.each_map (R := fun v d => ∃ as, Reads (PySem.W.sortingHeap s.heap a vs) v d as) enc er) hal hk (PySem.W.bound_map hu)) (by rw [e.length]; exact hL) ⟨.none, rfl, ?_⟩) (PyProof.Rows.args_list_sort _)
  exact h _ (by rw [PySem.W.sortVals_length false rfl]; exact e.length) (PySem.W.sortVals_data false e er hal)
end
def rDGet (K : PySem.W.Frag) : R2 := fun x y H Q => ∃ a v, x = .ref a ∧ DGetA K H a y (some v) ∧ Q v H
section
variable {X : Cx} {W : WX} {F : List Addr} {l l1 l2 l3 : Lv} {tg a b c e : Expr} {fa fb fc : E} {f g : S} {pos p p1 p2 p3 : Pos} {es : List Expr} {fe : EL} {K : PySem.W.Frag}
theorem pe_dgetA {ta tb : TE} (hu : X.A.units + 1 < cLine) (ho : PE X a ta) (hi : PE X b tb) (hs : NoSl b) : PE X (.Subscript a b pos) (tOp (rDGet X.K) ta tb) := by
  refine ⟨fun pins s σ H Q I h => ?_⟩
  refine subD_of PySem.F.slot_dict_getitem.lookup hs (thn (ho.run pins s σ H _ I h) fun u s1 ⟨x, H1, I1, rx, q1⟩ => thn (hi.run pins s1 σ H1 _ I1 q1) fun iv s2 ⟨y, H2, I2, ry, a, v, ex, g, q2⟩ => ?_)
  subst ex
  obtain rfl : u = Value.ref a := rx
  exact ⟨d_typeA I2 g, d_getA hu I2 g ry fun w' s3 I3 rw' => ⟨v, H2, I3, rw', q2⟩⟩
def gDGet : MP.D → MP.D → Option MP.D
  | .dict ds, .tuple ks => if (keysOf ks).isSome then valT ds (.tuple ks) else none
  | .dict ds, .int i => valT ds (.int i)
  | _, _ => none
theorem RpK.noTup {O : List Addr} {H : Hp} {ks : List MP.D} : ∀ {kvs : List (Key × V)} {ds : List (MP.D × MP.D)}, RpK K O H kvs ds → valT ds (.tuple ks) = none
  | _, _, .nil => rfl
  | _, _, .cons (k := k) a b => by
    have ih := RpK.noTup (ks := ks) b
    unfold valT at ih ⊢
    have e : PyData.eqv (keyD k) (.tuple ks) = false := by cases k <;> simp [keyD, PyData.eqv]
    rw [List.find?_cons]
    simp only [e]
    exact ih
theorem RpT.noInt {O : List Addr} {H : Hp} {i : Int} : ∀ {kvs : List (List Key × V)} {ds : List (MP.D × MP.D)}, RpT K O H kvs ds → valT ds (.int i) = none
  | _, _, .nil => rfl
  | _, _, .cons (k := k) a b => by
    have ih := RpT.noInt (i := i) b
    unfold valT at ih ⊢
    have e : PyData.eqv (.tuple (k.map keyD)) (.int i) = false := by simp [PyData.eqv]
    rw [List.find?_cons]
    simp only [e]
    exact ih
theorem od_dget : OpD K .s (rDGet K) gDGet := by
  intro O H x y dx dy d Q ok rx ry hg q
  unfold gDGet at hg
  split at hg
  · rename_i ds ks
    by_cases hk : (keysOf ks).isSome = true
    · rw [if_pos hk] at hg
      obtain ⟨k, hk⟩ := Option.isSome_iff_exists.mp hk
      have ek := keysOf_eq hk
      subst ek
      obtain ⟨b, ys, rfl, h1, h2⟩ := rp1_tup ry
      have ev := rpAll_keys h2
      subst ev
      cases (show Rp K O H x (.dict ds) from rx) with
      | dK a1 a2 a3 => rw [a3.noTup] at hg; cases hg
      | dT a1 a2 a3 =>
        obtain ⟨v, e1, e2⟩ := a3.val hg
        exact ⟨_, v, rfl, .inr ⟨_, k, b, .inr ⟨_, a1⟩, rfl, h1, e1.symm⟩, q H v (Same.refl H) e2⟩
    · rw [if_neg hk] at hg
      cases hg
  · rename_i ds i
    have ey := rp1_int ry
    subst ey
    cases (show Rp K O H x (.dict ds) from rx) with
    | dK a1 a2 a3 =>
      obtain ⟨v, e1, e2⟩ := a3.val (k := .inl i) hg
      exact ⟨_, v, rfl, .inl ⟨_, .inl i, .inr ⟨_, a1⟩, rfl, e1.symm⟩, q H v (Same.refl H) e2⟩
    | dT a1 a2 a3 => rw [a3.noInt] at hg; cases hg
  · cases hg
theorem j_dget (hu : X.A.units + 65 < cLine) (ha : JE l1 X W a fa) (hb : JE l2 X W b fb) (hs : NoSl b) : JE .s X W (.Subscript a b pos) (eOp2 gDGet fa fb) :=
  ⟨PE.imp (pe_dgetA (by omega) ha.pe hb.pe hs) fun _ _ _ q => op2_core od_dget q⟩
/-! ### for k in d -/
def keysD : List (MP.D × MP.D) → List MP.D := fun ds => ds.map (·.1)
def iKeysD (f : E) : EL := fun m => match f m with
  | some (.ok (.dict ds)) => some (.ok (keysD ds))
  | some (.exc c) => some (.exc c)
  | _ => none
theorem RpT.key {O : List Addr} {H : Hp} : ∀ {kvs : List (List Key × V)} {ds : List (MP.D × MP.D)} {i : Nat} {d : MP.D}, RpT K O H kvs ds → (keysD ds)[i]? = some d → ∃ k v, kvs[i]? = some (k, v) ∧ d = .tuple (k.map keyD)
  | _, _, i, d, .nil, h => by simp [keysD] at h
  | _, _, 0, d, .cons a b, h => by
    simp [keysD] at h
    exact ⟨_, _, rfl, h.symm⟩
  | _, _, i + 1, d, .cons a b, h => by
    obtain ⟨k, v, h1, h2⟩ := RpT.key (i := i) b (by simpa [keysD] using h)
    exact ⟨k, v, by simpa using h1, h2⟩
theorem RpK.key {O : List Addr} {H : Hp} : ∀ {kvs : List (Key × V)} {ds : List (MP.D × MP.D)} {i : Nat} {d : MP.D}, RpK K O H kvs ds → (keysD ds)[i]? = some d → ∃ k v, kvs[i]? = some (k, v) ∧ d = keyD k
  | _, _, i, d, .nil, h => by simp [keysD] at h
  | _, _, 0, d, .cons a b, h => by
    simp [keysD] at h
    exact ⟨_, _, rfl, h.symm⟩
  | _, _, i + 1, d, .cons a b, h => by
    obtain ⟨k, v, h1, h2⟩ := RpK.key (i := i) b (by simpa [keysD] using h)
    exact ⟨k, v, by simpa using h1, h2⟩
theorem rp_key {O : List Addr} {H : Hp} {k : Key} : Rp K O H (kV k) (keyD k) := by cases k with
  | inl i => exact .int i
  | inr x => exact .str x
theorem rp_keys {O : List Addr} {H : Hp} : ∀ {ks : List Key}, RpAll K O H (ks.map kV) (ks.map keyD)
  | [] => .nil
  | k :: ks => .cons rp_key rp_keys
theorem rch_at {O O' : List Addr} {H1 H' : Hp} {a : Addr} {u : HO} (hr : Rch l O H1 O' H') (h : H1 a = some u) (hn : a ∉ O) : H' a = some u := by
  have this : Rch l O H1 O' H' := hr
  cases l with
  | w => exact this.1 _ _ h
  | s => exact (this _ _ h hn).1
  | f => exact (this _ _ h hn).1
theorem i_keys (ha : JE .s X W e fa) : JI l X W tg e (iKeysD fa) := by
  refine ⟨PI.imp (pi_keys ha.pe) ?_⟩
  intro σ H R ⟨O, m, rf, q⟩
  refine ⟨O, m, rf, ?_⟩
  unfold iKeysD at q
  cases hf : fa m with
  | none => rw [hf] at q; exact q.elim
  | some z =>
    rw [hf] at q
    cases z with
    | exc c => exact q
    | ok d =>
      intro H1 v s1 r1
      cases d with
      | dict ds =>
        dsimp only at q
        have r1' : Rp X.K O H1 v (.dict ds) := r1
        cases r1' with
        | dK a1 a2 a3 =>
          refine ⟨_, _, rfl, .inl ⟨_, a1, q H1 _ s1 ⟨fun O' H' i d hr hd => ?_, fun O' H' i hr hi => ?_⟩⟩⟩
          · obtain ⟨k, v, h1, rfl⟩ := a3.key hd
            have ha' := rch_at hr a1 a2
            refine ⟨⟨ha', (List.getElem?_eq_some_iff.mp h1).1⟩, fun x H2 hy => ?_⟩
            obtain ⟨rfl, k', v', h3, rfl⟩ := hy
            rw [h1] at h3
            cases h3
            exact ⟨Same.refl _, rp_key⟩
          · have ha' := rch_at hr a1 a2
            exact ⟨ha', by rw [a3.length]; simpa [keysD] using hi⟩
        | dT a1 a2 a3 =>
          refine ⟨_, _, rfl, .inr ⟨_, a1, q H1 _ s1 ⟨fun O' H' i d hr hd => ?_, fun O' H' i hr hi => ?_⟩⟩⟩
          · obtain ⟨k, v, h1, rfl⟩ := a3.key hd
            have ha' := rch_at hr a1 a2
            refine ⟨⟨ha', (List.getElem?_eq_some_iff.mp h1).1⟩, fun x H2 hy => ?_⟩
            obtain ⟨rfl, k', v', q', h3, rfl, h4⟩ := hy
            rw [h1] at h3
            cases h3
            exact ⟨Same.refl _, .tup h4 rp_keys⟩
          · have ha' := rch_at hr a1 a2
            exact ⟨ha', by rw [a3.length]; simpa [keysD] using hi⟩
      | none => exact q.elim
      | bool i => exact q.elim
      | str i => exact q.elim
      | int i => exact q.elim
      | tuple i => exact q.elim
      | list i => exact q.elim
/-! ### len(d) -/
def rLenD : List V → Hp → VK → Prop := fun xs H Q => ∃ (p : Addr) (kvs : List (List Key × V)), xs = [.ref p] ∧ Rd H p (.dT kvs) ∧ Q (.int ((kvs.length : Nat) : Int)) H
def rLenDK : List V → Hp → VK → Prop := fun xs H Q => ∃ (p : Addr) (kvs : List (Key × V)), xs = [.ref p] ∧ Rd H p (.dK kvs) ∧ Q (.int ((kvs.length : Nat) : Int)) H
theorem cr_lenD : CallR X (.builtin "len") rLenD := by
  intro pins s σ H xs us Q I r h
  obtain ⟨p, kvs, rfl, hp, q⟩ := h
  obtain ⟨u, rfl, rx⟩ := vals1 r
  obtain rfl : u = .ref p := rx
  obtain ⟨z, hd, ys, rel, dd⟩ := dt_rd I.hok hp
  have hl : kvs.length = ys.length := Paired.length rel
  refine call_len_dictH hd dd (by rw [← hl]; rw [sizeLine_eq] at z; omega) ?_
  rw [← hl]
  exact ⟨.int ((kvs.length : Nat) : Int), H, I.tok _, ⟨_, rfl⟩, q⟩
/-- len of a dict of tuple keys -/
def bLenD : List MP.D → Option MP.D
  | [.dict (e :: ds)] => if allTup (e :: ds) then some (.int ((e :: ds).length : Nat)) else none
  | _ => none
theorem od_lenD : OpDL K .s rLenD bLenD := by
  intro O H vs ds d Q ok r h q
  unfold bLenD at h
  split at h
  · rename_i e ds
    by_cases ht : allTup (e :: ds) = true
    · rw [if_pos ht] at h
      cases h
      obtain ⟨v, rfl, rv⟩ := pair_one r
      cases (show Rp K O H v (.dict (e :: ds)) from rv) with
      | dK a1 a2 a3 => obtain ⟨_, z⟩ := a3.notTup ht; cases z
      | dT a1 a2 a3 => exact ⟨_, _, rfl, .inr ⟨_, a1⟩, q H _ (Same.refl H) (by rw [a3.length]; exact .of_int)⟩
    · rw [if_neg ht] at h
      cases h
  · cases h
theorem j_lenDF (hm : X.mg "len" = none) (hgl : Gl X "len") (ha : JA .w X W (e :: es) fe) (he : starEach (e :: es) X.env = (false, eval e X.env) :: starEach es X.env := by rfl) (hpl : (backTo pos (starEach es X.env)).any (·.1) = false := by rfl) :
    JE .s X W (.Call (.Name "len" p) (e :: es) [] pos) (eFn (rB bLenD) fe) := j_bi cr_lenD od_lenD hm boot_len hgl ha (by decide) (by decide) he hpl
/-! ### sorted(d) -/
def rSortT (K : PySem.W.Frag) : List V → Hp → VK → Prop := fun vs H Q => ∃ (O : List Addr) (a : Addr) (kvs : List (List Key × V)) (ds : List (MP.D × MP.D)), vs = [V.ref a] ∧ Rd H a (.dT kvs) ∧ RpT K O H kvs ds ∧ okSort (keysD ds) = true ∧
  ∀ (ys : List V) (p : Addr), RpAll K O H ys (sortD (keysD ds)) → H p = none → Q (.ref p) (upd H p (.lst ys))
theorem keys_rp {O : List Addr} {H : Hp} : ∀ {kvs : List (List Key × V)} {ds : List (MP.D × MP.D)} {ks : List (List Key × Addr × Value)}, RpT K O H kvs ds → KT H kvs ks → RpAll K O H (ks.map fun x => V.ref x.2.1) (keysD ds)
  | _, _, _, .nil, .nil => .nil
  | _, _, _, .cons a b, .cons h t => .cons (.tup h.2.1 rp_keys) (keys_rp b t)
theorem vals_keys : ∀ (ks : List (List Key × Addr × Value)), Vals (ks.map fun x => V.ref x.2.1) (ks.map fun x => Value.ref x.2.1)
  | [] => .nil
  | x :: ks => .cons rfl (vals_keys ks)
theorem cr_sortT (hc : X.calm = true) (hu : X.A.units + 65 < cLine) : CallR X (.builtin "sorted") (rSortT X.K) := by
  intro pins s σ H vs us Q I r h
  obtain ⟨O, d, kvs, ds, rfl, hs, hr, ok, q⟩ := h
  obtain ⟨u, rfl, rx⟩ := vals1 r
  obtain rfl : u = .ref d := rx
  obtain ⟨ok1, ok2⟩ := Bool.and_eq_true_iff.mp ok
  obtain ⟨ok2, ok3⟩ := Bool.and_eq_true_iff.mp ok2
  obtain ⟨ok3, ok4⟩ := Bool.and_eq_true_iff.mp ok3
  have hlen : (keysD ds).length ≤ line := of_decide_eq_true ok1
  obtain ⟨z, hsm, ks, pr, o, es, ep, ho, hx, hdt, he, hn⟩ := (show ObjOk X.prog X.w H s.heap d (.dT kvs) from hs.ok I.hok)
  have l1 : es.size = ks.length := size_of_entries he
  have l2 : kvs.length = ks.length := Paired.length pr
  have hrk := keys_rp hr pr
  have hfl : flatL (keysD ds) = true := by
    have : ∀ l : List MP.D, l.all small = true → flatL l = true := fun l => by
      induction l with
      | nil => intro _; simp [flatL]
      | cons x l ih =>
        intro h
        simp only [List.all_cons, Bool.and_eq_true] at h
        simp [flatL, (small_depth h.1).1, ih h.2]
    exact this _ ok2
  refine Calls.call_function_entry PyProof.Rows.kind_sorted PyProof.Rows.plain_sorted PyProof.Rows.entry_sorted (PyProof.Rows.args_sorted1 _) ?_
  unfold Builtin.«sorted»
  refine wpAny_bind (m := checkCount "sorted" 1 1 _) (wpAny_pure ?_)
  refine wpAny_bind (PySem.W.kdu_collect (A := X.A.in1) (kdl_raw hsm hx hdt) (I.ok.hd hc) ho (by omega) fun h' tk acc hk it => ?_)
  have ea : acc.toList = ks.map fun x => Value.ref x.2.1 := by
    have hl : acc.toList.length = ks.length := by rw [Array.length_toList, it.1]; exact l1
    apply List.ext_getElem?
    intro j
    rw [List.getElem?_map]
    cases hj : acc.toList[j]? with
    | none =>
      have h1 := List.getElem?_eq_none_iff.mp hj
      rw [List.getElem?_eq_none (by omega)]
      all_goals rfl
    | some v =>
      obtain ⟨en, hen, hv⟩ := it.2 j v (by rw [← Array.getElem?_toList]; exact hj)
      have qe := entry_at he j
      rw [hen] at qe
      cases hb : ks[j]? with
      | none =>
        rw [hb] at qe
        cases qe
      | some x =>
        rw [hb] at qe
        cases qe
        rw [hv]
        rfl
  have I1 : L2.Inv X pins σ H { s with heap := h', toks := tk } := I.kept hk
  have rv : Vals (ks.map fun x => V.ref x.2.1) acc.toList := by rw [ea]; exact vals_keys ks
  obtain ⟨as, rd⟩ := Dp.readsAll I1 (keysD ds) (ks.map fun x => V.ref x.2.1) acc.toList (hrk.dp hfl) rv
  have hxl := hrk.length
  have ez : ((ks.map fun x => V.ref x.2.1).zip (keysD ds)).map (·.2) = keysD ds := List.map_snd_zip (by omega)
  have el : ((ks.map fun x => V.ref x.2.1).zip (keysD ds)).length = (keysD ds).length := by rw [List.length_zip]; omega
  have hal : acc.toList.length = (keysD ds).length := by rw [ea, List.length_map]; rw [List.length_map] at hxl; exact hxl
  refine wpAny_bind (wpAny_newList ?_ (by rw [hal]; exact line_le hlen))
  have hoL : (h'.push (seqObj "list" acc.toList.toArray 0)).get? h'.objs.size = some (seqObj "list" acc.toList.toArray 0) := Heap.get?_push_size _ rfl
  show wpAny _ _ _ _ _ { s with heap := h'.push (seqObj "list" acc.toList.toArray 0), toks := tk }
  have keep : ∀ b o, h'.get? b = some o → (PySem.W.sortingHeap (h'.push (seqObj "list" acc.toList.toArray 0)) h'.objs.size acc.toList).get? b = some o := fun b o e =>
    PySem.W.sortingHeap_old (Nat.ne_of_lt (Heap.lt_size e)) (Heap.get?_push_of_some _ e)
  have er : PySem.W.EachIs (fun u (b : V × MP.D) => ∃ as, Reads (PySem.W.sortingHeap (h'.push (seqObj "list" acc.toList.toArray 0)) h'.objs.size acc.toList) u b.2 as) acc.toList ((ks.map fun x => V.ref x.2.1).zip (keysD ds)) :=
    (each_reads hxl rd).mono fun _ _ ⟨as, r⟩ => ⟨as, PyProof.Rows.Reads.keeps keep r⟩
  refine wpAny_bind (wpAny_holding (sort_new (s := { s with heap := h'.push (seqObj "list" acc.toList.toArray 0), toks := tk }) (enc := fun b : V × MP.D => b.2) (R := fun u (b : V × MP.D) => RelV b.1 u ∧ Rp X.K O H b.1 b.2) hoL (each_zip hrk rv) er (by rw [ez]; exact alikeL_ok ok3) (by rw [ez]; exact sortable_ok ok4) (by rw [el]; exact line_le hlen) (fun b hb => ?_) fun out hol hoe => ?_))
  · have hm : b.2 ∈ keysD ds := by rw [← ez]; exact List.mem_map.mpr ⟨b, hb, rfl⟩
    have := (small_depth (List.all_eq_true.mp ok2 _ hm)).2.2
    show X.A.units + 1 + 1 + b.2.depth < cLine
    omega
  · obtain ⟨h1, h2⟩ := each_vals hoe
    have em : (((ks.map fun x => V.ref x.2.1).zip (keysD ds)).mergeSort (PySem.W.dataLe false fun b => b.2)).map (·.2) = sortD (keysD ds) := by
      unfold sortD
      have q := List.map_mergeSort (f := fun b : V × MP.D => b.2) (l := (ks.map fun x => V.ref x.2.1).zip (keysD ds)) (r := PySem.W.dataLe false fun b : V × MP.D => b.2) (s := PySem.W.dataLe false id) (fun a _ b _ => rfl)
      rw [ez] at q
      exact q
    rw [em] at h2
    obtain ⟨e', he'⟩ := PyProof.Rows.sortedHeap_at (vs := acc.toList) (out := out.toArray) hoL
    have hlen2 : ((((ks.map fun x => V.ref x.2.1).zip (keysD ds)).mergeSort (PySem.W.dataLe false fun b => b.2)).map (·.1)).length ≤ sizeLine := by
      rw [List.length_map, List.length_mergeSort, el]
      exact line_le hlen
    refine wpAny_pure ⟨_, rfl, .ref h'.objs.size, upd H h'.objs.size (.lst _), I1.laid (t' := tk) (fun b u e => ?_) (Nat.le_refl _)
      (show ObjOk X.prog X.w _ _ _ (.lst _) from ⟨hlen2, out, e', h1, he'⟩), rfl, q _ _ h2 (I1.hok.fresh (Nat.le_refl _))⟩
    have hb : b < h'.objs.size := Heap.lt_size e
    rw [PyProof.Rows.sortedHeap_old (Nat.ne_of_lt hb) (by rw [size_push']; exact Nat.lt_succ_of_lt hb)]
    exact Heap.get?_push_of_some _ e
def bSortT : List MP.D → Option MP.D
  | [.dict (e :: ds)] => if allTup (e :: ds) && okSort (keysD (e :: ds)) then some (.list (sortD (keysD (e :: ds)))) else none
  | _ => none
theorem od_sortT : OpDL K .f (rSortT K) bSortT := by
  intro O H vs ds d Q ok r h q
  unfold bSortT at h
  split at h
  · rename_i e ds
    by_cases ht : (allTup (e :: ds) && okSort (keysD (e :: ds))) = true
    · rw [if_pos ht] at h
      cases h
      obtain ⟨h1, h2⟩ := Bool.and_eq_true_iff.mp ht
      obtain ⟨v, rfl, rv⟩ := pair_one r
      cases (show Rp K O H v (.dict (e :: ds)) from rv) with
      | dK a1 a2 a3 => obtain ⟨_, z⟩ := a3.notTup h1; cases z
      | dT a1 a2 a3 =>
        refine ⟨O, _, _, e :: ds, rfl, .inr ⟨_, a1⟩, a3, h2, fun zs p h3 hp => ?_⟩
        exact q _ _ (same_upd hp) ⟨p, zs, rfl, hp, upd_same, rp_new h3 ok hp⟩
    · rw [if_neg ht] at h
      cases h
  · cases h
theorem j_sortTF (hc : X.calm = true) (hu : X.A.units + 65 < cLine) (hm : X.mg "sorted" = none) (hgl : Gl X "sorted") (ha : JA .w X W (e :: es) fe) (he : starEach (e :: es) X.env = (false, eval e X.env) :: starEach es X.env := by rfl) (hpl : (backTo pos (starEach es X.env)).any (·.1) = false := by rfl) :
    JE .f X W (.Call (.Name "sorted" p) (e :: es) [] pos) (eFn (rB bSortT) fe) := j_bi (cr_sortT hc hu) od_sortT hm PyProof.Rows.boot_sorted hgl ha (by decide) (by decide) he hpl
end
end MP

set_option Elab.async false
set_option linter.all false
set_option maxRecDepth 100000
namespace MP
open PySem PySem.Spec PyProof.Rows L2
def gRg1 : MP.D → Option MP.D
  | .int n => if -1000 ≤ n ∧ n ≤ 1000 then some (.list (irange 0 n.toNat)) else none
  | _ => none
def gRg2 : MP.D → MP.D → Option MP.D
  | .int a, .int b => if (-1000 ≤ a ∧ a ≤ 1000) ∧ -1000 ≤ b ∧ b ≤ 1000 then some (.tuple (irange a (b - a).toNat)) else none
  | _, _ => none
section
variable {X : Cx} {W : WX} {l l1 l2 l3 : Lv} {a b c e : Expr} {fa fb fc : E} {pos p p1 p2 p3 : Pos} {K : PySem.W.Frag} {O : List Addr} {H : Hp}
theorem rg_rp {i j : Int} : RpAll K O H (rgV i j) (irange i (j - i).toNat) := by
  have e : rgV i j = ((List.range (j - i).toNat).map fun k : Nat => i + (k : Int)).map V.int := by
    unfold rgV
    rw [List.map_map]
    rfl
  have e2 : irange i (j - i).toNat = ((List.range (j - i).toNat).map fun k : Nat => i + (k : Int)).map PyData.int := by
    unfold irange
    rw [List.map_map]
    rfl
  rw [e, e2]
  exact RpAll.of_ints
theorem j_listRg1 (hc : X.calm = true) (m1 : X.mg "list" = none) (g1 : Gl X "list") (m2 : X.mg "range" = none) (g2 : Gl X "range") (ha : JE l1 X W a fa)
    (na : starEach [a] X.env = (false, eval a X.env) :: starEach [] X.env := by rfl) (nb : starEach [(.Call (.Name "range" p1) [a] [] p2 : Expr)] X.env = (false, eval (.Call (.Name "range" p1) [a] [] p2) X.env) :: starEach [] X.env := by rfl) :
    JE .f X W (.Call (.Name "list" p) [.Call (.Name "range" p1) [a] [] p2] [] pos) (eOp1 gRg1 fa) := by
  refine ⟨PE.imp (pe_listRg hc g1 m1 (prg_1 g2 m2 ha.pe na) nb) ?_⟩
  intro σ H Q ⟨O, m, rf, q⟩
  refine ⟨O, m, rf, ?_⟩
  unfold eOp1 at q
  cases hf : fa m with
  | none => rw [hf] at q; exact q
  | some z =>
    rw [hf] at q
    cases z with
    | exc c => exact q
    | ok d =>
      intro H1 v s1 r1
      dsimp only [bnd] at q
      cases d with
      | int n =>
        unfold gRg1 at q
        dsimp only at q
        by_cases hn : -1000 ≤ n ∧ n ≤ 1000
        · rw [if_pos hn] at q
          refine ⟨n, rp1_int (r1.rp1 rf.ok), ⟨by omega, by omega, by omega, by omega, ?_⟩, fun p hp => ?_⟩
          · omega
          · have e := rg_rp (K := X.K) (O := O) (H := H1) (i := 0) (j := n)
            rw [Int.sub_zero] at e
            exact q _ _ (s1.trans (same_upd hp)) ⟨p, _, rfl, s1.free hp, upd_same, rp_new e (rf.ok.same s1) hp⟩
        · rw [if_neg hn] at q
          exact q.elim
      | none => exact q.elim
      | bool i => exact q.elim
      | str i => exact q.elim
      | list i => exact q.elim
      | tuple i => exact q.elim
      | dict i => exact q.elim
theorem j_tupRg2 (hc : X.calm = true) (m1 : X.mg "tuple" = none) (g1 : Gl X "tuple") (m2 : X.mg "range" = none) (g2 : Gl X "range") (ha : JE l1 X W a fa) (hb : JE l2 X W b fb)
    (na : starEach [a, b] X.env = (false, eval a X.env) :: starEach [b] X.env := by rfl) (nb : starEach [b] X.env = (false, eval b X.env) :: starEach [] X.env := by rfl) (hp : (backTo p2 (starEach [b] X.env)).any (·.1) = false := by rfl)
    (nc : starEach [(.Call (.Name "range" p1) [a, b] [] p2 : Expr)] X.env = (false, eval (.Call (.Name "range" p1) [a, b] [] p2) X.env) :: starEach [] X.env := by rfl) :
    JE .s X W (.Call (.Name "tuple" p) [.Call (.Name "range" p1) [a, b] [] p2] [] pos) (eOp2 gRg2 fa fb) := by
  refine ⟨PE.imp (pe_tupRg hc g1 m1 (prg_2 g2 m2 ha.pe hb.pe na nb hp) nc) ?_⟩
  intro σ H Q ⟨O, m, rf, q⟩
  refine ⟨O, m, rf, ?_⟩
  unfold eOp2 at q
  cases hf : fa m with
  | none => rw [hf] at q; exact q
  | some z =>
    rw [hf] at q
    cases z with
    | exc c => exact q
    | ok d =>
      intro H1 v s1 r1
      dsimp only [bnd] at q
      refine ⟨O, m, rf.same s1, ?_⟩
      cases hf2 : fb m with
      | none => rw [hf2] at q; exact q
      | some z2 =>
        rw [hf2] at q
        cases z2 with
        | exc c => exact fun H' C e1 e2 => q H' C (s1.trans e1) e2
        | ok d2 =>
          intro H2 v2 s2 r2
          dsimp only [bnd] at q
          cases hq : gRg2 d d2 with
          | none => rw [hq] at q; exact q.elim
          | some d3 =>
            rw [hq] at q
            unfold gRg2 at hq
            split at hq
            · rename_i i j
              by_cases hn : (-1000 ≤ i ∧ i ≤ 1000) ∧ -1000 ≤ j ∧ j ≤ 1000
              · rw [if_pos hn] at hq
                cases hq
                refine ⟨i, j, rp1_int (r1.rp1 rf.ok), rp1_int (r2.rp1 (rf.ok.same s1)), ⟨by omega, by omega, by omega, by omega, ?_⟩, fun p hp => ?_⟩
                · omega
                · exact q _ _ ((s1.trans s2).trans (same_upd hp)) (.tup upd_same (rg_rp.same (same_upd hp)))
              · rw [if_neg hn] at hq
                cases hq
            · cases hq
end
section
variable {X : Cx} {W : WX} {F : List Addr} {l l1 l2 l3 : Lv} {a b c e : Expr} {fa fb fc : E} {f g : S} {pos p p' p1 p2 p3 : Pos} {st : Stmt} {es : List Expr} {fe : EL} {i : Nat} {x : Str}
/-- found[i] = e, keys that are no tuples -/
def sDPutK (i : Nat) (fk : E) (fv : E) : S := fun m => match m[i]? with
  | some (.odc ds) => if allFlat ds then (bndS (fv m) m fun d => match fk m with
    | some (.ok k) => if (keyOf k).isSome && decide (ds.length < line) then some (.nx (m.set i (.odc (putT ds k d)))) else none
    | some (.exc c) => none
    | none => none) else none
  | _ => none
theorem Inv.asK {pins : List (Addr × Obj)} {σ : L2.St} {H : Hp} {s : Shared} {a : Addr} (I : L2.Inv X pins σ H s) (h : H a = some (.dT [])) : L2.Inv X pins σ (upd H a (.dK [])) s := by
  obtain ⟨z, hd, xs, rel, o, es, ep, h1, h2, h3, h4, h5⟩ := (show ObjOk X.prog X.w H s.heap a (.dT []) from I.hok a _ h)
  cases rel
  have e0 : es.toList = [] := h4
  have e1 : es = #[] := by
    cases es
    simp at e0
    subst e0
    rfl
  subst e1
  exact d_write (h' := s.heap) (t' := s.toks) I (by rw [h]; exact True.intro) ⟨rfl, fun b hb => rfl⟩ ⟨o, h1⟩ ⟨Nat.zero_le _, hd, [], .nil, o, #[], ep, h1, h2, h3, fun e he => by simp at he, .nil, List.nodup_nil⟩
theorem ps_asKE {st : Stmt} {t : TS} (h : PS X st t) : PS X st (fun D σ H => t D σ H ∨ ∃ a, H a = some (.dT []) ∧ t D σ (upd H a (.dK []))) := by
  refine ⟨fun pins s σ H D I hw => ?_⟩
  rcases hw with hw | ⟨a, h1, hw⟩
  · exact h.run pins s σ H D I hw
  · exact h.run pins s σ _ D (Inv.asK I h1) hw
theorem dputK_core {D : Ends} {σ : L2.St} {H : Hp} {O : List Addr} {m : En} {fk fv : E} {a : Addr} {kvs : List (Key × V)} {ds : List (MP.D × MP.D)} (r : RefS X F O m σ H) (hm : m[i]? = some (.odc ds)) (e1 : σ[i]? = some (some (.ref a))) (e2 : a ∈ O) (e3 : H a = some (.dK kvs)) (e4 : RpK X.K O H kvs ds)
    (q : Post X W F O H D (bndS (fv m) m fun d => match fk m with
      | some (.ok k) => if (keyOf k).isSome && decide (ds.length < line) then some (.nx (m.set i (.odc (putT ds k d)))) else none
      | some (.exc c) => none
      | none => none)) :
    sDPut (fun σ H Q => ∃ v, σ[i]? = some (some v) ∧ Q v H) (RdE .s X W fk) (RdE .s X W fv) D σ H := by
  refine rdS r q fun d H1 v s1 rv q => ?_
  refine ⟨.ref a, e1, ?_⟩
  have r1 := r.same s1
  refine ⟨O, m, r1.r, ?_⟩
  cases hk2 : fk m with
  | none => rw [hk2] at q; exact q.elim
  | some z =>
    rw [hk2] at q
    cases z with
    | exc c => exact q.elim
    | ok kd =>
      dsimp only at q
      intro H2 y s2 ry
      by_cases hc : ((keyOf kd).isSome && decide (ds.length < line)) = true
      · rw [if_pos hc] at q
        simp only [Bool.and_eq_true, decide_eq_true_eq] at hc
        obtain ⟨c2, c4⟩ := hc
        obtain ⟨k, hk3⟩ := Option.isSome_iff_exists.mp c2
        have ek := keyOf_eq hk3
        subst ek
        have ey : y = kV k := by
          have ry' : Rp X.K O H2 y (keyD k) := ry
          cases k with
          | inl i => cases (show Rp X.K O H2 y (.int i) from ry'); rfl
          | inr x => cases (show Rp X.K O H2 y (.str x) from ry'); rfl
        subst ey
        have h3 : H2 a = some (.dK kvs) := s2 _ _ (s1 _ _ e3)
        refine ⟨a, _, rfl, DPut.k h3 (by rw [e4.length]; exact line_lt (Nat.le_of_lt c4)), ?_⟩
        have r3 := r1.same s2
        obtain ⟨r4, f4, fre⟩ := r3.chg (o := .dK (putK kvs k v)) i (.inr ⟨_, hm⟩) e1 e2 (.inr (.inl ⟨_, rfl⟩))
        have hx : RpK X.K O (upd H2 a (.dK (putK kvs k v))) (putK kvs k v) (putT ds (keyD k) d) :=
          (((e4.same s1).same s2).put (rv.same s2)).fr ⟨f4, r3.r.ok⟩
        have r5 := r4.setC e2 (r.mine i a (.inr ⟨_, hm⟩) e1) (.inl ⟨_, upd_same, hx⟩) fre i
        rw [set_un_set, set_same e1] at r5
        exact q O σ _ r5 (Fr.trans (Fr.of_same s2) f4)
      · rw [if_neg hc] at q
        exact q.elim
theorem s_dputK {fk fv : E} (hu : X.A.units + 65 < cLine) (hN : X.N[i]? = some x) (hv : Vis X.env.scope x) (hk : JE .s X W b fk) (he : JE .s X W e fv) (hd : (x == ("__debug__" : Str)) = false := by decide) (hcd : (x == ("__classdict__" : Str)) = false := by decide)
    (hs : swapsWith e (some (.Subscript (.Name x p) b p2)) pos.line X.env = pure false := by rfl) :
    JS X W F (.Assign [.Subscript (.Name x p) b p2] e pos) (sDPutK i fk fv) := by
  refine ⟨PS.imp (ps_asKE (ps_dput (by omega) (pe_var hN hv hd hcd) hk.pe he.pe hs)) ?_⟩
  intro D σ H ⟨O, m, r, q⟩
  unfold sDPutK at q
  cases hm : m[i]? with
  | none => rw [hm] at q; exact q.elim
  | some z =>
    rw [hm] at q
    cases z with
    | odc ds =>
      dsimp only at q
      by_cases ht : allFlat ds = true
      · rw [if_pos ht] at q
        obtain ⟨a, e1, e2, ⟨kvs, e3, e4⟩ | ⟨kvs, e3, e4⟩⟩ := r.r.odc i ds hm
        · exact .inl (dputK_core r hm e1 e2 e3 e4 q)
        · obtain ⟨rfl, rfl⟩ := e4.notFlat ht
          right
          refine ⟨a, e3, ?_⟩
          obtain ⟨r4, f4, fre⟩ := r.chg (o := .dK []) i (.inr ⟨_, hm⟩) e1 e2 (.inr (.inl ⟨_, rfl⟩))
          have r5 := r4.setC e2 (r.mine i a (.inr ⟨_, hm⟩) e1) (.inl ⟨[], upd_same, .nil⟩) fre i
          rw [set_un_set, set_same e1] at r5
          have em : m.set i (.odc []) = m := by
            apply List.ext_getElem?
            intro j
            rw [getset]
            by_cases e : i = j
            · subst e; rw [if_pos rfl, if_pos (List.getElem?_eq_some_iff.mp hm).1, hm]
            · rw [if_neg e]
          rw [em] at r5
          exact dputK_core r5 hm e1 e2 upd_same .nil (Post.fr q f4)
      · rw [if_neg ht] at q
        exact q.elim
    | own ds => exact q.elim
    | un => exact q.elim
    | dat d => exact q.elim
    | exc c => exact q.elim
end
end MP

set_option Elab.async false
set_option linter.all false
set_option maxRecDepth 100000
set_option maxHeartbeats 1000000
namespace MP
open PySem PySem.Spec PyProof.Rows L2
section
variable {prog : Program} {w : World} {A : Around} {E : Value → Shared → Prop} {s : Shared}
/-- a zip that may still hold the pair it gave last -/
def ZB (h : Heap) (z TI TO : Addr) (f0 : Value) (bo : Bool) : Prop :=
  h.get? z = some { cls := .type "zip", dict := none, data := .fields #[f0, .bool bo, .bool false, .ref TI, .ref TO], slots := #[] }
def Own0 (f0 : Value) : Prop := f0 = .none ∨ ∃ T : Addr, f0 = rawInt T
theorem wpAny_alive {M : Model} {a : Addr} {Q : Option Obj → Shared → Prop} (h : Q (s.heap.get? a) s) : wpAny M A (loadIfAlive a) Q E s := by
  intro Γ p _
  unfold loadIfAlive
  rw [Sem.wp_loadIfAlive]
  exact (Sem.wp_pure ..).mpr h
/-- whether the pair given last is free -/
theorem own_free {z TI TO : Addr} {f0 : Value} {bo : Bool} (hz : ZB s.heap z TI TO f0 bo) (ho : Own0 f0) {Q : Bool → Shared → Prop}
    (h1 : Q true s) (h2 : ∀ h', ZB h' z TI TO f0 true → Heap.SameBut z s.heap h' → Q false { s with heap := h' }) :
    wpAny (model prog w) A (Builtin.SmallTypes.ownedTupleIsFree (.ref z)) Q E s := by
  unfold Builtin.SmallTypes.ownedTupleIsFree
  refine wpAny_bind (wpAny_field hz rfl (x := f0) rfl ?_)
  rcases ho with rfl | ⟨T, rfl⟩
  · exact wpAny_pure h1
  · show wpAny _ _ (loadIfAlive ((T : Int)).toNat >>= _) _ _ _
    refine wpAny_bind (wpAny_alive ?_)
    cases s.heap.get? ((T : Int)).toNat with
    | none => exact wpAny_pure h1
    | some o =>
      show wpAny _ _ (field (.ref z) 1 >>= _) _ _ _
      refine wpAny_bind (wpAny_field hz rfl (x := .bool bo) rfl ?_)
      cases bo with
      | true => exact wpAny_bind (wpAny_pure (wpAny_pure (h2 s.heap hz ⟨rfl, fun _ _ => rfl⟩)))
      | false =>
        refine wpAny_bind ?_
        exact wpAny_setField_rec hz (by simp) fun h' hz' hs' => wpAny_pure (h2 h' hz' hs')
/-- the next pair -/
theorem zipN_item {z TI TO i1 i2 l1 l2 : Addr} {k1 k2 : Nat} {xs ys : Array Value} {x y a b f0 : Value} {bo : Bool} {Q : Value → Shared → Prop} (D : ZipApart z TI TO i1 i2 l1 l2)
    (hz : ZB s.heap z TI TO f0 bo) (ho : Own0 f0) (hTI : IsPair s.heap TI (.ref i1) (.ref i2)) (hTO : IsPair s.heap TO a b)
    (h1 : s.heap.IsListIter i1 l1 k1) (h2 : s.heap.IsListIter i2 l2 k2) (hl1 : s.heap.IsList l1 xs) (hl2 : s.heap.IsList l2 ys) (hx : xs[k1]? = some x) (hy : ys[k2]? = some y)
    (hQ : ∀ h' f0' bo' a' b', ZB h' z TI TO f0' bo' → Own0 f0' → IsPair h' TO a' b' → h'.IsListIter i1 l1 (k1 + 1) → h'.IsListIter i2 l2 (k2 + 1) → IsPair h' s.heap.objs.size x y →
      (∀ c o, c ≠ z → c ≠ TO → c ≠ i1 → c ≠ i2 → s.heap.get? c = some o → h'.get? c = some o) → Q (.ref s.heap.objs.size) { s with heap := h' }) :
    wpAny (model prog w) A (Builtin.«zip.__next__» ⟨[.ref z], []⟩) (fun fin s' => ∃ v, fin = .done (.ret v) ∧ Q v s') E s := by
  show wpAny _ _ (field (.ref z) 2 >>= _) _ _ _
  refine wpAny_bind (wpAny_field hz rfl (x := .bool false) rfl ?_)
  show wpAny _ _ (field (.ref z) 3 >>= _) _ _ _
  refine wpAny_bind (wpAny_field hz rfl (x := .ref TI) rfl ?_)
  refine wpAny_bind (wpAny_seqItems hTI rfl ?_)
  show wpAny _ _ (Builtin.SmallTypes.ownedTupleIsFree (.ref z) >>= _) _ _ _
  refine wpAny_bind (own_free hz ho ?_ fun h₀ hz₀ hs₀ => ?_)
  · simp only [if_true]
    refine wpAny_bind (wpAny_rule ?_)
    refine wpAny_bind (wpAny_field hz rfl (x := .ref TO) rfl ?_)
    refine wpAny_bind (wpAny_setField_rec hz (by simp) fun g₁ z₁ s₁ => ?_)
    refine wpAny_bind ?_
    simp only [List.zipIdx_cons, List.zipIdx_nil, List.forIn_cons, List.forIn_nil]
    refine wpAny_bind (wpAny_bind (wpAny_onRaise ?_))
    show wpAny _ _ (Builtin.SmallTypes.nextOf (.ref i1) >>= _) _ _ _
    refine wpAny_bind (wpAny_nextOf_list_item (h1.extBut s₁.extBut D.i1z) (hl1.extBut s₁.extBut D.l1z) hx fun g₂ w1 s₂ => wpAny_pure ?_)
    have t₂ : IsPair g₂ TO a b := s₂.extBut _ _ D.TOi1 (s₁.extBut _ _ D.TOz hTO)
    refine wpAny_bind (wpAny_seqItems t₂ rfl ?_)
    refine wpAny_bind (wpAny_updateSeq_pair t₂ fun g₃ t₃ s₃ => ?_)
    replace t₃ : IsPair g₃ TO x b := t₃
    refine wpAny_bind (wpAny_letGo (wpAny_pure ?_))
    refine wpAny_bind (wpAny_bind (wpAny_onRaise ?_))
    show wpAny _ _ (Builtin.SmallTypes.nextOf (.ref i2) >>= _) _ _ _
    refine wpAny_bind (wpAny_nextOf_list_item (((h2.extBut s₁.extBut D.i2z).extBut s₂.extBut D.i12.symm).extBut s₃.extBut D.TOi2.symm)
      (((hl2.extBut s₁.extBut D.l2z).extBut s₂.extBut D.l2i1).extBut s₃.extBut D.l2TO) hy fun g₄ w2 s₄ => wpAny_pure ?_)
    have t₄ : IsPair g₄ TO x b := s₄.extBut _ _ D.TOi2 t₃
    refine wpAny_bind (wpAny_seqItems t₄ rfl ?_)
    refine wpAny_bind (wpAny_updateSeq_pair t₄ fun g₅ t₅ s₅ => ?_)
    replace t₅ : IsPair g₅ TO x y := t₅
    refine wpAny_bind (wpAny_letGo (wpAny_pure (wpAny_pure ?_)))
    refine wpAny_bind (wpAny_seqItems t₅ rfl ?_)
    refine wpAny_bind (wpAny_newTuple ?_)
    have hsz : g₅.objs.size = s.heap.objs.size := by rw [s₅.1, s₄.1, s₃.1, s₂.1, s₁.1]
    have z₅ : ZB g₅ z TI TO .ellipsis bo := s₅.extBut _ _ D.TOz.symm (s₄.extBut _ _ D.i2z.symm (s₃.extBut _ _ D.TOz.symm (s₂.extBut _ _ D.i1z.symm z₁)))
    have k₅ : ∀ c o, c ≠ z → c ≠ TO → c ≠ i1 → c ≠ i2 → s.heap.get? c = some o → g₅.get? c = some o := fun c o c1 c2 c3 c4 e =>
      s₅.extBut _ _ c2 (s₄.extBut _ _ c4 (s₃.extBut _ _ c2 (s₂.extBut _ _ c3 (s₁.extBut _ _ c1 e))))
    have a₅ : g₅.IsListIter i1 l1 (k1 + 1) := ((w1.extBut s₃.extBut D.TOi1.symm).extBut s₄.extBut D.i12).extBut s₅.extBut D.TOi1.symm
    have b₅ : g₅.IsListIter i2 l2 (k2 + 1) := w2.extBut s₅.extBut D.TOi2.symm
    have zlt : z < g₅.objs.size := Heap.lt_size z₅
    show wpAny _ _ (Builtin.SmallTypes.ownedTupleHandOut (.ref z) (.ref g₅.objs.size) >>= _) _ _ _
    refine wpAny_bind ?_
    unfold Builtin.SmallTypes.ownedTupleHandOut
    have z₆ : ZB (g₅.push { cls := .type "tuple", data := .seq #[x, y] }) z TI TO .ellipsis bo := Heap.get?_push_of_some _ z₅
    refine wpAny_bind (wpAny_setField_rec z₆ (by simp) fun g₇ z₇ s₇ => ?_)
    refine wpAny_setField_rec z₇ (by simp) fun g₈ z₈ s₈ => ?_
    have up : ∀ c o, c ≠ z → g₅.get? c = some o → g₈.get? c = some o := fun c o c1 e => s₈.extBut _ _ c1 (s₇.extBut _ _ c1 (Heap.get?_push_of_some _ e))
    have T₈ : IsPair g₈ g₅.objs.size x y := s₈.extBut _ _ (Nat.ne_of_gt zlt) (s₇.extBut _ _ (Nat.ne_of_gt zlt) (Heap.get?_push_size _ rfl))
    refine wpAny_pure ⟨_, rfl, ?_⟩
    show Q (.ref g₅.objs.size) _
    rw [hsz] at T₈ ⊢
    exact hQ g₈ (rawInt g₅.objs.size) false x y z₈ (.inr ⟨_, rfl⟩) (up _ _ D.TOz t₅) (a₅.at fun o e => up _ o D.i1z e) (b₅.at fun o e => up _ o D.i2z e) T₈ fun c o c1 c2 c3 c4 e => up c o c1 (k₅ c o c1 c2 c3 c4 e)
  · simp only [Bool.false_eq_true, if_false]
    rw [← Array.forIn_toList]
    simp only [List.forIn_cons, List.forIn_nil]
    refine wpAny_bind (wpAny_bind (wpAny_bind (wpAny_holding ?_)))
    show wpAny _ _ (Builtin.SmallTypes.nextOf (.ref i1) >>= _) _ _ _
    refine wpAny_bind (wpAny_nextOf_list_item (h1.extBut hs₀.extBut D.i1z) (hl1.extBut hs₀.extBut D.l1z) hx fun g₂ w1 s₂ => wpAny_pure ?_)
    refine wpAny_pure ?_
    refine wpAny_bind (wpAny_bind (wpAny_holding ?_))
    show wpAny _ _ (Builtin.SmallTypes.nextOf (.ref i2) >>= _) _ _ _
    refine wpAny_bind (wpAny_nextOf_list_item ((h2.extBut hs₀.extBut D.i2z).extBut s₂.extBut D.i12.symm)
      ((hl2.extBut hs₀.extBut D.l2z).extBut s₂.extBut D.l2i1) hy fun g₄ w2 s₄ => wpAny_pure ?_)
    refine wpAny_pure (wpAny_pure ?_)
    show wpAny _ _ (newTuple [x, y] >>= _) _ _ _
    refine wpAny_bind (wpAny_newTuple ?_)
    have hsz : g₄.objs.size = s.heap.objs.size := by rw [s₄.1, s₂.1, hs₀.1]
    have up : ∀ c o, c ≠ z → c ≠ i1 → c ≠ i2 → s.heap.get? c = some o → (g₄.push { cls := .type "tuple", data := .seq #[x, y] }).get? c = some o := fun c o c1 c3 c4 e =>
      Heap.get?_push_of_some _ (s₄.extBut _ _ c4 (s₂.extBut _ _ c3 (hs₀.extBut _ _ c1 e)))
    refine wpAny_pure ⟨_, rfl, ?_⟩
    show Q (.ref g₄.objs.size) _
    have T : IsPair (g₄.push { cls := .type "tuple", data := .seq #[x, y] }) g₄.objs.size x y := Heap.get?_push_size _ rfl
    rw [hsz] at T ⊢
    exact hQ _ f0 true a b (Heap.get?_push_of_some _ (s₄.extBut _ _ D.i2z.symm (s₂.extBut _ _ D.i1z.symm hz₀))) ho (up _ _ D.TOz D.TOi1 D.TOi2 hTO)
      ((w1.extBut s₄.extBut D.i12).at fun o e => Heap.get?_push_of_some _ e) (w2.at fun o e => Heap.get?_push_of_some _ e) T fun c o c1 _ c3 c4 e => up c o c1 c3 c4 e
/-- no more pairs -/
theorem zipN_end {z TI TO i1 i2 l1 l2 : Addr} {k1 k2 : Nat} {xs ys : Array Value} {a b f0 : Value} {bo : Bool} {Q : Fin → Shared → Prop} (hh : A.handled = none) (D : ZipApart z TI TO i1 i2 l1 l2)
    (hz : ZB s.heap z TI TO f0 bo) (ho : Own0 f0) (hTI : IsPair s.heap TI (.ref i1) (.ref i2)) (hTO : IsPair s.heap TO a b)
    (h1 : s.heap.IsListIter i1 l1 k1) (h2 : s.heap.IsListIter i2 l2 k2) (hl1 : s.heap.IsList l1 xs) (hl2 : s.heap.IsList l2 ys) (hend : xs[k1]? = none ∨ ys[k2]? = none)
    (hE : ∀ h' e, (∀ c o, c ≠ z → c ≠ TO → c ≠ i1 → c ≠ i2 → s.heap.get? c = some o → h'.get? c = some o) → (∃ o, h'.get? e = some o ∧ o.cls = .type "StopIteration") → E (.ref e) { s with heap := h' }) :
    wpAny (model prog w) A (Builtin.«zip.__next__» ⟨[.ref z], []⟩) Q E s := by
  show wpAny _ _ (field (.ref z) 2 >>= _) _ _ _
  refine wpAny_bind (wpAny_field hz rfl (x := .bool false) rfl ?_)
  show wpAny _ _ (field (.ref z) 3 >>= _) _ _ _
  refine wpAny_bind (wpAny_field hz rfl (x := .ref TI) rfl ?_)
  refine wpAny_bind (wpAny_seqItems hTI rfl ?_)
  show wpAny _ _ (Builtin.SmallTypes.ownedTupleIsFree (.ref z) >>= _) _ _ _
  refine wpAny_bind (own_free hz ho ?_ fun h₀ hz₀ hs₀ => ?_)
  · simp only [if_true]
    refine wpAny_bind (wpAny_rule ?_)
    refine wpAny_bind (wpAny_field hz rfl (x := .ref TO) rfl ?_)
    refine wpAny_bind (wpAny_setField_rec hz (by simp) fun g₁ z₁ s₁ => ?_)
    replace z₁ : ZB g₁ z TI TO .ellipsis bo := z₁
    refine wpAny_bind ?_
    simp only [List.zipIdx_cons, List.zipIdx_nil, List.forIn_cons, List.forIn_nil]
    refine wpAny_bind (wpAny_bind (wpAny_onRaise ?_))
    show wpAny _ _ (Builtin.SmallTypes.nextOf (.ref i1) >>= _) _ _ _
    cases hx : xs[k1]? with
    | none =>
      refine wpAny_bind (wpAny_nextOf_list_end hh (h1.extBut s₁.extBut D.i1z) (hl1.extBut s₁.extBut D.l1z) hx fun g₂ e s₂ he => ?_)
      obtain ⟨oe, hoe, hce⟩ := he
      have z₂ : ZB g₂ z TI TO .ellipsis bo := s₂ _ _ D.i1z.symm z₁
      have hez : e ≠ z := fun q => by subst q; unfold ZB at z₂; rw [z₂] at hoe; cases hoe; simp at hce
      exact wpAny_setField_rec z₂ (by simp) fun g₃ _ s₃ => hE g₃ e (fun c o c1 _ c3 _ q => s₃.extBut _ _ c1 (s₂ _ _ c3 (s₁.extBut _ _ c1 q))) ⟨oe, s₃.extBut _ _ hez hoe, hce⟩
    | some x =>
      have hy : ys[k2]? = none := by rcases hend with h | h; rw [hx] at h; cases h; exact h
      refine wpAny_bind (wpAny_nextOf_list_item (h1.extBut s₁.extBut D.i1z) (hl1.extBut s₁.extBut D.l1z) hx fun g₂ w1 s₂ => wpAny_pure ?_)
      have t₂ : IsPair g₂ TO a b := s₂.extBut _ _ D.TOi1 (s₁.extBut _ _ D.TOz hTO)
      refine wpAny_bind (wpAny_seqItems t₂ rfl ?_)
      refine wpAny_bind (wpAny_updateSeq_pair t₂ fun g₃ t₃ s₃ => ?_)
      refine wpAny_bind (wpAny_letGo (wpAny_pure ?_))
      refine wpAny_bind (wpAny_bind (wpAny_onRaise ?_))
      show wpAny _ _ (Builtin.SmallTypes.nextOf (.ref i2) >>= _) _ _ _
      refine wpAny_bind (wpAny_nextOf_list_end hh (((h2.extBut s₁.extBut D.i2z).extBut s₂.extBut D.i12.symm).extBut s₃.extBut D.TOi2.symm)
        (((hl2.extBut s₁.extBut D.l2z).extBut s₂.extBut D.l2i1).extBut s₃.extBut D.l2TO) hy fun g₄ e s₄ he => ?_)
      obtain ⟨oe, hoe, hce⟩ := he
      have z₄ : ZB g₄ z TI TO .ellipsis bo := s₄ _ _ D.i2z.symm (s₃.extBut _ _ D.TOz.symm (s₂.extBut _ _ D.i1z.symm z₁))
      have hez : e ≠ z := fun q => by subst q; unfold ZB at z₄; rw [z₄] at hoe; cases hoe; simp at hce
      exact wpAny_setField_rec z₄ (by simp) fun g₅ _ s₅ => hE g₅ e (fun c o c1 c2 c3 c4 q => s₅.extBut _ _ c1 (s₄ _ _ c4 (s₃.extBut _ _ c2 (s₂.extBut _ _ c3 (s₁.extBut _ _ c1 q))))) ⟨oe, s₅.extBut _ _ hez hoe, hce⟩
  · simp only [Bool.false_eq_true, if_false]
    rw [← Array.forIn_toList]
    simp only [List.forIn_cons, List.forIn_nil]
    refine wpAny_bind (wpAny_bind (wpAny_bind (wpAny_holding ?_)))
    show wpAny _ _ (Builtin.SmallTypes.nextOf (.ref i1) >>= _) _ _ _
    cases hx : xs[k1]? with
    | none =>
      refine wpAny_bind (wpAny_nextOf_list_end hh (h1.extBut hs₀.extBut D.i1z) (hl1.extBut hs₀.extBut D.l1z) hx fun g₂ e s₂ he => ?_)
      exact hE g₂ e (fun c o c1 _ c3 _ q => s₂ _ _ c3 (hs₀.extBut _ _ c1 q)) he
    | some x =>
      have hy : ys[k2]? = none := by rcases hend with h | h; rw [hx] at h; cases h; exact h
      refine wpAny_bind (wpAny_nextOf_list_item (h1.extBut hs₀.extBut D.i1z) (hl1.extBut hs₀.extBut D.l1z) hx fun g₂ w1 s₂ => wpAny_pure ?_)
      refine wpAny_pure ?_
      refine wpAny_bind (wpAny_bind (wpAny_holding ?_))
      show wpAny _ _ (Builtin.SmallTypes.nextOf (.ref i2) >>= _) _ _ _
      refine wpAny_bind (wpAny_nextOf_list_end hh ((h2.extBut hs₀.extBut D.i2z).extBut s₂.extBut D.i12.symm)
        ((hl2.extBut hs₀.extBut D.l2z).extBut s₂.extBut D.l2i1) hy fun g₄ e s₄ he => ?_)
      exact hE g₄ e (fun c o c1 _ c3 c4 q => s₄ _ _ c4 (s₂.extBut _ _ c3 (hs₀.extBut _ _ c1 q))) he
theorem next_item {z TI TO i1 i2 l1 l2 : Addr} {k1 k2 : Nat} {xs ys : Array Value} {x y a b f0 : Value} {bo : Bool} {Q : Option Value → Shared → Prop} (D : ZipApart z TI TO i1 i2 l1 l2)
    (hz : ZB s.heap z TI TO f0 bo) (ho : Own0 f0) (hTI : IsPair s.heap TI (.ref i1) (.ref i2)) (hTO : IsPair s.heap TO a b)
    (h1 : s.heap.IsListIter i1 l1 k1) (h2 : s.heap.IsListIter i2 l2 k2) (hl1 : s.heap.IsList l1 xs) (hl2 : s.heap.IsList l2 ys) (hx : xs[k1]? = some x) (hy : ys[k2]? = some y)
    (hQ : ∀ h' f0' bo' a' b', ZB h' z TI TO f0' bo' → Own0 f0' → IsPair h' TO a' b' → h'.IsListIter i1 l1 (k1 + 1) → h'.IsListIter i2 l2 (k2 + 1) → IsPair h' s.heap.objs.size x y →
      (∀ c o, c ≠ z → c ≠ TO → c ≠ i1 → c ≠ i2 → s.heap.get? c = some o → h'.get? c = some o) → Q (some (.ref s.heap.objs.size)) { s with heap := h' }) :
    wpAny (model prog w) A (pyNext (.ref z)) Q E s := by
  have hT : s.TypeIs (.ref z) "zip" := ⟨_, hz, rfl⟩
  unfold pyNext
  exact wpAny_bind (wpAny_attempt (wpAny_callSpecial?_slot (name := Str.ofString "__next__") hT F.slot_zip_next
    (wpAny_call_entry F.slot_zip_next hT F.entry_zip_next
      (zipN_item D hz ho hTI hTO h1 h2 hl1 hl2 hx hy fun h' f0' bo' a' b' q1 q2 q3 q4 q5 q6 q7 => wpAny_pure (hQ h' f0' bo' a' b' q1 q2 q3 q4 q5 q6 q7)) (F.args_zip_next_1 _))))
theorem next_end {z TI TO i1 i2 l1 l2 : Addr} {k1 k2 : Nat} {xs ys : Array Value} {a b f0 : Value} {bo : Bool} {Q : Option Value → Shared → Prop} (hh : A.handled = none) (D : ZipApart z TI TO i1 i2 l1 l2)
    (hz : ZB s.heap z TI TO f0 bo) (ho : Own0 f0) (hTI : IsPair s.heap TI (.ref i1) (.ref i2)) (hTO : IsPair s.heap TO a b)
    (h1 : s.heap.IsListIter i1 l1 k1) (h2 : s.heap.IsListIter i2 l2 k2) (hl1 : s.heap.IsList l1 xs) (hl2 : s.heap.IsList l2 ys) (hend : xs[k1]? = none ∨ ys[k2]? = none)
    (hQ : ∀ h', (∀ c o, c ≠ z → c ≠ TO → c ≠ i1 → c ≠ i2 → s.heap.get? c = some o → h'.get? c = some o) → Q none { s with heap := h' }) : wpAny (model prog w) A (pyNext (.ref z)) Q E s := by
  have hT : s.TypeIs (.ref z) "zip" := ⟨_, hz, rfl⟩
  unfold pyNext
  refine wpAny_bind (wpAny_attempt (wpAny_callSpecial?_slot (name := Str.ofString "__next__") hT F.slot_zip_next
    (wpAny_call_entry F.slot_zip_next hT F.entry_zip_next (zipN_end hh D hz ho hTI hTO h1 h2 hl1 hl2 hend fun h' e hk he => ?_) (F.args_zip_next_1 _))))
  obtain ⟨o, ho, hc⟩ := he
  refine wpAny_bind (wpAny_isInstance (T := "StopIteration") (b := true) ⟨o, ho, hc⟩ isSubtype_stop ?_)
  exact wpAny_pure (hQ _ hk)
theorem iter_zb {z TI TO : Addr} {f0 : Value} {bo : Bool} {Q : Value → Shared → Prop} (hz : ZB s.heap z TI TO f0 bo) (h : Q (.ref z) s) : wpAny (model prog w) A (pyIter (.ref z)) Q E s := by
  have hT : s.TypeIs (.ref z) "zip" := ⟨_, hz, rfl⟩
  refine wpAny_pyIter_slot hT F.slot_zip_iter (wpAny_call_entry F.slot_zip_iter hT F.entry_zip_iter ?_ (F.args_zip_iter_1 _))
  show wpAny _ _ (PySem.ret (.ref z)) _ _ s
  exact wpAny_pure ⟨_, rfl, "zip", _, hT, F.slot_zip_next.lookup, h⟩
end
/-- the turns of a zip whose pairs go to a name -/
theorem turn_zipN {P : Program} {w : World} {K : PySem.W.Frag} {nm : String} {tpos : Pos} {a b z TI TO i1 i2 : Addr} (D : ZipApart z TI TO i1 i2 a b) :
    Turn P w K (.Name nm tpos) (Itz K a b) [z, TI, TO, i1, i2] z (fun i h => (∃ f0 bo, ZB h z TI TO f0 bo ∧ Own0 f0) ∧ IsPair h TI (.ref i1) (.ref i2) ∧ (∃ x y, IsPair h TO x y) ∧ h.IsListIter i1 a i ∧ h.IsListIter i2 b i) where
  mem := by simp
  obj := fun i h st c hc => by
    obtain ⟨⟨f0, bo, hz, _⟩, hTI, ⟨x, y, hTO⟩, ⟨o1, e1, _, d1⟩, ⟨o2, e2, _, d2⟩⟩ := st
    have e' : c = z ∨ c = TI ∨ c = TO ∨ c = i1 ∨ c = i2 := by simpa using hc
    rcases e' with q | q | q | q | q
    · rw [q]; exact ⟨_, hz, fun v q => nomatch q⟩
    · rw [q]; exact ⟨_, hTI, fun v q => nomatch q⟩
    · rw [q]; exact ⟨_, hTO, fun v q => nomatch q⟩
    · rw [q]; exact ⟨o1, e1, fun v q => by rw [d1] at q; cases q⟩
    · rw [q]; exact ⟨o2, e2, fun v q => by rw [d2] at q; cases q⟩
  keep := fun i h h' st k => by
    obtain ⟨⟨f0, bo, hz, ho⟩, hTI, ⟨x, y, hTO⟩, h1, h2⟩ := st
    exact ⟨⟨f0, bo, k z (by simp) _ hz, ho⟩, k TI (by simp) _ hTI, ⟨x, y, k TO (by simp) _ hTO⟩, h1.at fun o q => k i1 (by simp) o q, h2.at fun o q => k i2 (by simp) o q⟩
  item := by
    intro X hP hw hK hc i pins s σ H E I hf st hg
    subst hP hw hK
    obtain ⟨⟨f0, bo, hz, ho⟩, hTI, ⟨x0, y0, hTO⟩, h1, h2⟩ := st
    obtain ⟨xs, ys, x, y, hqx, hqy, hx, hy⟩ := hg
    obtain ⟨its, rv, p, _⟩ := I.list hqx
    obtain ⟨its2, rv2, p2, _⟩ := I.list hqy
    obtain ⟨u, hu, ru⟩ := rv.get hx
    obtain ⟨u2, hu2, ru2⟩ := rv2.get hy
    have hzl : z < s.heap.objs.size := Heap.lt_size hz
    refine next_item D hz ho hTI hTO h1 h2 p.isList p2.isList (x := u) (y := u2) (by simpa using hu) (by simpa using hu2) fun h' f0' bo' a' b' z' ho' TO' h1' h2' hT hk => ?_
    refine ⟨_, rfl, wpAny_pure ?_⟩
    have new : ObjOk X.prog X.w (upd H s.heap.objs.size (.tup [x, y])) h' s.heap.objs.size (.tup [x, y]) :=
      ⟨by show 2 ≤ sizeLine; decide, [u, u2], .cons ru (.cons ru2 .nil), ⟨_, hT, rfl, _, rfl⟩⟩
    have I1 : Inv X pins σ (upd H s.heap.objs.size (.tup [x, y])) { s with heap := h' } :=
      I.turnedNew (t' := s.toks) (ch := [z, TI, TO, i1, i2]) (fun c o hb q => hk c o (fun q' => hb (by simp [q'])) (fun q' => hb (by simp [q'])) (fun q' => hb (by simp [q'])) (fun q' => hb (by simp [q'])) q) hf (Nat.le_refl _) new
    refine ⟨.ref s.heap.objs.size, _, I1, rfl, ⟨_, x, y, rfl, I.hok.fresh (Nat.le_refl _), rfl, fun l hl => by rw [I.list_inj hl hqx]; exact hx, fun l hl => by rw [I.list_inj hl hqy]; exact hy⟩, ⟨⟨f0', bo', z', ho'⟩, hk _ _ D.TIz D.TITO D.TIi1 D.TIi2 hTI, ⟨a', b', TO'⟩, h1', h2'⟩, fun c hcm => ?_⟩
    have hlt : c < s.heap.objs.size := by
      have e' : c = z ∨ c = TI ∨ c = TO ∨ c = i1 ∨ c = i2 := by simpa using hcm
      rcases e' with q | q | q | q | q
      · rw [q]; exact hzl
      · rw [q]; exact Heap.lt_size hTI
      · rw [q]; exact Heap.lt_size hTO
      · rw [q]; obtain ⟨_, e1, _⟩ := h1; exact Heap.lt_size e1
      · rw [q]; obtain ⟨_, e2, _⟩ := h2; exact Heap.lt_size e2
    rw [upd_ne (Nat.ne_of_lt hlt)]
    exact (hf c hcm).1
  done := by
    intro X hP hw hK hc i pins s σ H E I hf st hg
    subst hP hw hK
    obtain ⟨⟨f0, bo, hz, ho⟩, hTI, ⟨x0, y0, hTO⟩, h1, h2⟩ := st
    obtain ⟨xs, ys, hqx, hqy, hend⟩ := hg
    obtain ⟨its, rv, p, _⟩ := I.list hqx
    obtain ⟨its2, rv2, p2, _⟩ := I.list hqy
    have l1 := rv.length
    have l2 := rv2.length
    have he : its.toArray[i]? = none ∨ its2.toArray[i]? = none := by
      rcases hend with q | q
      · exact .inl (by simp; omega)
      · exact .inr (by simp; omega)
    exact next_end (I.ok.hd hc) D hz ho hTI hTO h1 h2 p.isList p2.isList he fun h' hk => ⟨rfl, I.turnedL (t' := s.toks) (ch := [z, TI, TO, i1, i2]) (fun c o hb q =>
      hk c o (fun q' => hb (by simp [q'])) (fun q' => hb (by simp [q'])) (fun q' => hb (by simp [q'])) (fun q' => hb (by simp [q'])) q) hf⟩
  self := fun A i s Q E st h => by
    obtain ⟨⟨f0, bo, hz, _⟩, _⟩ := st
    exact iter_zb hz h
theorem pi_zipN {X : Cx} {e e2 : Expr} {ta : TA} {p pos tpos : Pos} {nm : String} (hg : Gl X "zip") (hm : X.mg "zip" = none) (ha : PA X [e, e2] ta)
    (hs : starEach [e, e2] X.env = (false, eval e X.env) :: starEach [e2] X.env := by rfl) (hpl : (backTo pos (starEach [e2] X.env)).any (·.1) = false := by rfl) :
    PI X (.Name nm tpos) (.Call (.Name "zip" p) [e, e2] [] pos) (iZip X.K ta) := by
  refine ⟨fun pins s σ H R I h => ?_⟩
  refine Call_ (ld_blt I hg hm PyProof.Rows.boot_zip (PyProof.Rows.callWith_type1 (thn (ha.run pos pins s σ H _ I h) fun us s1 ⟨vs, H1, I1, r1, q1⟩ => ?_) hs hpl))
  obtain ⟨a, b, xs, ys, ex, hqx, hqy, q⟩ := q1
  subst ex
  cases r1 with
  | cons r rr =>
    cases rr with
    | cons r' rr =>
      cases rr
      cases r
      cases r'
      obtain ⟨its, rv, p1, _⟩ := I1.list hqx
      obtain ⟨its2, rv2, p2, _⟩ := I1.list hqy
      have la : a < s1.heap.objs.size := p1.lt
      have lb : b < s1.heap.objs.size := p2.lt
      refine call_zip_2 p1.isList p2.isList fun h' hz hTI hTO h1 h2 hsz hk => wpAny_pyIter_zip hz ?_
      have I2 : Inv X pins σ H1 { s1 with heap := h' } := I1.kept (t' := s1.toks) hk
      refine ⟨s1.heap.objs.size + 4, [s1.heap.objs.size + 4, s1.heap.objs.size + 2, s1.heap.objs.size + 3, s1.heap.objs.size, s1.heap.objs.size + 1], _, _, H1, rfl, I2, turn_zipN (PySem.W.ktu_apart s1.heap.objs.size a b la lb), ⟨⟨_, _, hz, .inl rfl⟩, hTI, ⟨_, _, hTO⟩, h1, h2⟩, fun c hcm => ?_, q⟩
      have hle : s1.heap.objs.size ≤ c := by
        have e' : c = s1.heap.objs.size + 4 ∨ c = s1.heap.objs.size + 2 ∨ c = s1.heap.objs.size + 3 ∨ c = s1.heap.objs.size ∨ c = s1.heap.objs.size + 1 := by simpa using hcm
        rcases e' with z | z | z | z | z
        · rw [z]; exact Nat.le_add_right _ _
        · rw [z]; exact Nat.le_add_right _ _
        · rw [z]; exact Nat.le_add_right _ _
        · rw [z]; exact Nat.le_refl _
        · rw [z]; exact Nat.le_add_right _ _
      exact I1.fpOk hle (I1.hok.fresh hle)
section
variable {X : Cx} {W : WX} {l l1 l2 l3 : Lv} {tg a b c e : Expr} {fa fb fc : E} {pos p : Pos} {es : List Expr} {fe : EL}
/-- lists alone -/
def kZipL : MP.D → MP.D → Option ResL
  | .list xs, .list ys => some (.ok (pairs xs ys))
  | _, _ => none
theorem i_zipN {nm : String} {tpos : Pos} (hg : Gl X "zip") (hm : X.mg "zip" = none) (ha : JE l X W a fa) (hb : JE l X W b fb) (hl : l ≠ .f) (hs : starEach [a, b] X.env = (false, eval a X.env) :: starEach [b] X.env := by rfl)
    (hs2 : starEach [b] X.env = (false, eval b X.env) :: starEach [] X.env := by rfl) (hpl : (backTo pos (starEach [b] X.env)).any (·.1) = false := by rfl) : JI l X W (.Name nm tpos) (.Call (.Name "zip" p) [a, b] [] pos) (two fa fb kZipL) := by
  refine ⟨PI.imp (pi_zipN hg hm (pa_cons ha.pe (pa_cons hb.pe pa_nil hs2) hs) hs hpl) ?_⟩
  intro σ H R q
  refine two_core q fun O m dx dy H1 H2 x y rf s1 s2 r1 r2 q => ?_
  have ok1 := rf.ok.same s1
  have ok2 := ok1.same s2
  have r1' : Rv l X.K O H H2 x dx := r1.same s2
  unfold kZipL at q
  split at q
  · rename_i ds hk
    split at hk
    · rename_i xs ys
      cases hk
      obtain ⟨a1, rfl, ⟨zs, hz⟩, w1⟩ := list_rch r1' hl ok2
      obtain ⟨b1, rfl, ⟨ws, hw⟩, w2⟩ := list_rch r2 hl ok2
      refine ⟨a1, b1, zs, ws, rfl, hz, hw, q H2 _ (Same.refl _) ⟨fun O' H' i d hr hd => ?_, fun O' H' i hr hi => ?_⟩⟩
      · obtain ⟨x, y, h1, h2, rfl⟩ := zip_get hd
        obtain ⟨us, q1, q2⟩ := w1 O' H' hr
        obtain ⟨ts, q3, q4⟩ := w2 O' H' hr
        obtain ⟨u, g1, g2⟩ := q2.get h1
        obtain ⟨t, g3, g4⟩ := q4.get h2
        refine ⟨⟨us, ts, u, t, q1, q3, g1, g3⟩, fun z H2 hy => ?_⟩
        obtain ⟨T, x', y', rfl, hT, rfl, e1, e2⟩ := hy
        have i1 := e1 us q1
        have i2 := e2 ts q3
        rw [g1] at i1
        rw [g3] at i2
        cases i1
        cases i2
        exact ⟨same_upd hT, .tup upd_same (.cons (g2.same (same_upd hT)) (.cons (g4.same (same_upd hT)) .nil))⟩
      · obtain ⟨us, q1, q2⟩ := w1 O' H' hr
        obtain ⟨ts, q3, q4⟩ := w2 O' H' hr
        refine ⟨us, ts, q1, q3, ?_⟩
        rw [q2.length, q4.length]
        simp only [pairs, List.length_map, List.length_zip] at hi
        omega
    · cases hk
  · rename_i c hk
    split at hk <;> cases hk
  · exact q.elim
end
end MP

set_option Elab.async false
set_option linter.all false
set_option maxRecDepth 100000
set_option maxHeartbeats 1000000
namespace MP
open PySem PySem.Spec PyProof.Rows L2
/-! ### dicts of tuple keys: a display, reads and stores by a tuple -/
section
variable {X : Cx} {W : WX} {F : List Addr} {l l1 l2 l3 : Lv} {a b c e k v : Expr} {fa fb fc fe : E} {f g : S} {pos p p' p1 p2 p3 : Pos} {st : Stmt} {es : List Expr} {i : Nat} {x : Str}
/-- {k: v} whose key is a tuple; the new dict stands empty while the pair is made -/
def tDisp1 (tk tv : TE) : TE := fun σ H Q => ∀ p, H p = none → tk σ (upd H p (.dT [])) fun x H1 => tv σ H1 fun y H2 => H2 p = some (.dT []) ∧ ∃ (b : Addr) (k : List Key), x = .ref b ∧ H2 b = some (.tup (k.map kV)) ∧ Q (.ref p) (upd H2 p (.dT [(k, y)]))
theorem pe_disp1 {tk tv : TE} (hu : X.A.units + 1 < cLine) (hk : PE X k tk) (hv : PE X v tv) : PE X (.Dict [some k] [v] pos) (tDisp1 tk tv) := by
  refine ⟨fun pins s σ H Q I q => ?_⟩
  have hn := I.hok.fresh (Nat.le_refl s.heap.objs.size)
  have I0 := I.laid (a := s.heap.objs.size) (o := .dT []) (h' := s.heap.push { cls := .type "dict", data := .dict #[] }) (t' := s.toks) (fun _ _ q => Heap.get?_push_of_some _ q) (Nat.le_refl _) (dt_empty s.heap I.big)
  refine wpAny_Dict_any rfl rfl (by simp) (by simp) (pairTrees_cons_walk (thn (hk.run pins _ σ _ _ I0 (q _ hn)) fun u s1 ⟨x, H1, I1, rx, q1⟩ => thn (hv.run pins s1 σ H1 _ I1 q1) fun w2 s2 ⟨y, H2, I2, ry, e, b, kk, ex, eb, q2⟩ => pairTrees_nil_walk ?_))
  subst ex
  obtain rfl : u = Value.ref b := rx
  obtain ⟨z, hd, xs, rel, dd⟩ := dt_of I2.hok e
  cases rel
  unfold storeAll
  rw [List.forIn_cons]
  refine wpAny_bind (wpAny_bind (wpAny_dictSet_heap (knd := tupleKind (mixKind X.prog X.w)) (show X.A.units < cLine by omega) (key_of I2.hok eb) dd (fun h' dd' hs => wpAny_pure ?_) (Nat.zero_le _)))
  dsimp only
  rw [List.forIn_nil]
  refine wpAny_pure ⟨.ref s.heap.objs.size, _, ?_, rfl, q2⟩
  obtain ⟨qo, es, ep, hq, h2, h3, h4, _, h5⟩ := dd'
  have rel0 : KT H2 [] [] := .nil
  refine d_write I2 (by rw [e]; exact True.intro) hs ⟨qo, hq⟩ ⟨by rw [sizeLine_eq]; simp, hd, _, (rel0.put kk eb ry).keeps fun c ys ec => ?_, qo, es, ep, hq, h2, h3, h4, h5⟩
  rw [upd_ne (ne_of ec e (fun z => nomatch z))]
  exact ec
/-- .. among the values of a parallel assignment: a dict of our own -/
def mDisp (fk fv : E) (r : EM) : EM := fun m => match fk m with
  | some (.ok (.tuple ks)) => (match fv m with
    | some (.ok d) => if (keysOf ks).isSome then (match r m with
      | some (.ok ss) => some (.ok (.odc [(.tuple ks, d)] :: ss))
      | some (.exc c) => some (.exc c)
      | none => none) else none
    | _ => none)
  | _ => none
theorem m_disp {fk fv : E} {fr : EM} (hu : X.A.units + 65 < cLine) (hk : JE l1 X W k fk) (hv : JE .s X W v fv) (hr : JM X W F es fr) (hs : starEach ((.Dict [some k] [v] pos) :: es) X.env = (false, eval (.Dict [some k] [v] pos) X.env) :: starEach es X.env := by rfl) :
    JM X W F ((.Dict [some k] [v] pos) :: es) (mDisp fk fv fr) := by
  refine ⟨PA.imp (pa_cons (pe_disp1 (by omega) hk.pe hv.pe) hr.pa hs) ?_⟩
  intro σ H Q ⟨O, m, r, U, hO, q⟩ p hp
  obtain ⟨r1, f1, n1, nF⟩ := r.grow (same_upd (o := .dT []) hp) hp upd_same (.inr (.inr ⟨[], rfl⟩))
  refine ⟨p :: O, m, r1.r, ?_⟩
  unfold mDisp at q
  cases hf : fk m with
  | none => rw [hf] at q; exact q.elim
  | some z =>
    rw [hf] at q
    cases z with
    | exc c => exact q.elim
    | ok d =>
      cases d with
      | tuple ks =>
        intro H1 x s1 rx
        dsimp only at q
        refine ⟨p :: O, m, (r1.same s1).r, ?_⟩
        cases hf2 : fv m with
        | none => rw [hf2] at q; exact q.elim
        | some z2 =>
          rw [hf2] at q
          cases z2 with
          | exc c => exact q.elim
          | ok d =>
            intro H2 y s2 ry
            dsimp only at q
            by_cases hks : (keysOf ks).isSome = true
            · rw [if_pos hks] at q
              obtain ⟨kk, hkk⟩ := Option.isSome_iff_exists.mp hks
              have ek := keysOf_eq hkk
              subst ek
              obtain ⟨bb, ys, rfl, h1, h2⟩ := rp1_tupP (rx.rp1 r1.r.ok)
              have ev := rpAll_keys h2
              subst ev
              have hp2 : H2 p = some (.dT []) := s2 _ _ (s1 _ _ upd_same)
              refine ⟨hp2, bb, kk, rfl, s2 _ _ h1, ?_⟩
              have sm : Same H (upd H2 p (.dT [(kk, y)])) := fun c o e => by
                rw [upd_ne (ne_of_none e hp)]
                exact s2 _ _ (s1 _ _ (by rw [upd_ne (ne_of_none e hp)]; exact e))
              obtain ⟨r3, f3, n3, _⟩ := r.grow sm hp upd_same (.inr (.inr ⟨[(kk, y)], rfl⟩))
              have g3 : Gr O H (p :: O) (upd H2 p (.dT [(kk, y)])) := ⟨sm, fun c hc => List.mem_cons_of_mem _ hc, fun c hc => (List.mem_cons.mp hc).elim (fun e => .inr (by rw [e]; exact hp)) .inl⟩
              have r2 := (r1.same s1).same s2
              have fr2 : Fr (p :: O) H2 (p :: O) (upd H2 p (.dT [(kk, y)])) := fun c o e n => ⟨by rw [upd_ne (fun z => n (by rw [z]; exact List.mem_cons_self))]; exact e, n⟩
              have hy : Rp X.K (p :: O) (upd H2 p (.dT [(kk, y)])) y d := Rp.fr ry ⟨fr2, r2.r.ok⟩
              have nO : p ∉ O := r.r.ok.fresh hp
              refine ⟨p :: O, m, r3, (fun c => U c ∨ c = p), fun c hc => hc.elim (fun z => List.mem_cons_of_mem _ (hO c z)) (fun z => by rw [z]; exact List.mem_cons_self), ?_⟩
              cases hg : fr m with
              | none => rw [hg] at q; exact q
              | some z =>
                rw [hg] at q
                cases z with
                | exc c => exact fun O' H' C r' g' => q O' H' C r' (g3.trans g')
                | ok ss =>
                  intro O' H' vs r' g' sl
                  refine q O' H' _ r' (g3.trans g') (.odc (g'.up p List.mem_cons_self) nF (.inr ⟨_, g'.sm _ _ upd_same, .cons (Rp.fr hy ⟨g'.fr, r3.r.ok⟩) .nil⟩) (fun z => nO (hO p z)) sl)
            · rw [if_neg hks] at q
              exact q.elim
      | none => exact q.elim
      | bool b => exact q.elim
      | int b => exact q.elim
      | str b => exact q.elim
      | list b => exact q.elim
      | dict b => exact q.elim
/-- found[k] of a dict of our own -/
def eDGetO (i : Nat) (fk : E) : E := fun m => match m[i]? with
  | some (.odc ds) => bnd (fk m) fun k => match k with
    | .tuple ks => if (keysOf ks).isSome then ret (valT ds (.tuple ks)) else none
    | _ => none
  | _ => none
theorem j_dgetO (hu : X.A.units + 65 < cLine) (hN : X.N[i]? = some x) (hv : Vis X.env.scope x) (hb : JE l2 X W b fb) (hs : NoSl b) (hd : (x == ("__debug__" : Str)) = false := by decide) (hcd : (x == ("__classdict__" : Str)) = false := by decide) :
    JE .s X W (.Subscript (.Name x p) b pos) (eDGetO i fb) := by
  refine ⟨PE.imp (pe_dget (by omega) (pe_var hN hv hd hcd) hb.pe hs) ?_⟩
  intro σ H Q ⟨O, m, r, q⟩
  unfold eDGetO at q
  cases hm : m[i]? with
  | none => rw [hm] at q; exact q.elim
  | some z =>
    rw [hm] at q
    cases z with
    | odc ds =>
      dsimp only at q
      obtain ⟨a, e1, e2, e3⟩ := r.odc i ds hm
      refine ⟨.ref a, e1, O, m, r, ?_⟩
      cases hf : fb m with
      | none => rw [hf] at q; exact q
      | some z2 =>
        rw [hf] at q
        cases z2 with
        | exc c => exact q
        | ok d =>
          intro H1 v s1 rv
          dsimp only [bnd] at q
          cases d with
          | tuple ks =>
            dsimp only at q
            by_cases hk : (keysOf ks).isSome = true
            · rw [if_pos hk] at q
              obtain ⟨k, hk⟩ := Option.isSome_iff_exists.mp hk
              have ek := keysOf_eq hk
              subst ek
              obtain ⟨b, ys, rfl, h1, h2⟩ := rp1_tupP (rv.rp1 r.ok)
              have ev := rpAll_keys h2
              subst ev
              rcases e3 with ⟨kvs, h3, h4⟩ | ⟨kvs, h3, h4⟩
              · rw [h4.noTup] at q
                exact q.elim
              · cases hv : valT ds (.tuple (k.map keyD)) with
                | none => rw [hv] at q; exact q.elim
                | some d =>
                  rw [hv] at q
                  obtain ⟨v, g1, g2⟩ := h4.val hv
                  exact ⟨a, v, rfl, .inr ⟨kvs, k, b, .inl (s1 _ _ h3), rfl, h1, g1.symm⟩, q H1 v s1 (g2.same s1)⟩
            · rw [if_neg hk] at q
              exact q.elim
          | none => exact q.elim
          | bool b => exact q.elim
          | int b => exact q.elim
          | str b => exact q.elim
          | list b => exact q.elim
          | dict b => exact q.elim
    | own ds => exact q.elim
    | un => exact q.elim
    | dat d => exact q.elim
    | exc c => exact q.elim
/-- k not in found, a dict of our own -/
def eDNotIn (i : Nat) (fk : E) : E := fun m => match m[i]? with
  | some (.odc ds) => bnd (fk m) fun k => match k with
    | .tuple ks => if (keysOf ks).isSome && (allTup ds && !ds.isEmpty) then some (.ok (.bool (valT ds (.tuple ks)).isNone)) else none
    | _ => none
  | _ => none
theorem RpT.valN {K : PySem.W.Frag} {O : List Addr} {H : Hp} : ∀ {kvs : List (List Key × V)} {ds : List (MP.D × MP.D)} {k : List Key}, RpT K O H kvs ds → (valV kvs k).isSome = (valT ds (.tuple (k.map keyD))).isSome
  | _, _, k, .nil => rfl
  | _, _, k, .cons (k := k') (v := v) (d := d') a b => by
    have ih := RpT.valN (k := k) b
    unfold valT at ih ⊢
    rw [List.find?_cons]
    by_cases e : k' = k
    · have e' : PyData.eqv (.tuple (k'.map keyD)) (.tuple (k.map keyD)) = true := by rw [eqv_tupKey]; simp [e]
      simp only [e']
      rw [valV_pos (p := (k', v)) e]
      rfl
    · have e' : PyData.eqv (.tuple (k'.map keyD)) (.tuple (k.map keyD)) = false := by rw [eqv_tupKey]; simp [e]
      simp only [e']
      rw [valV_neg (p := (k', v)) e]
      exact ih
theorem t_dnotin (hu : X.A.units + 65 < cLine) (ha : JE l1 X W a fa) (hN : X.N[i]? = some x) (hv : Vis X.env.scope x) (hm0 : behindInMarks .NotIn (.Name x p) = false := by with_unfolding_all rfl) (hd : (x == ("__debug__" : Str)) = false := by decide) (hcd : (x == ("__classdict__" : Str)) = false := by decide) :
    JT X W (.Compare a [.NotIn] [.Name x p] pos) (eDNotIn i fa) := by
  refine ⟨PT.imp (pt_cmp (pc_dnotin (by omega) ha.pe (pe_var hN hv hd hcd)) hm0) ?_⟩
  intro σ H Q ⟨O, m, r, q⟩
  unfold eDNotIn at q
  cases hm : m[i]? with
  | none => rw [hm] at q; exact q.elim
  | some z =>
    rw [hm] at q
    cases z with
    | odc ds =>
      dsimp only at q
      obtain ⟨a, e1, e2, e3⟩ := r.odc i ds hm
      refine ⟨O, m, r, ?_⟩
      cases hf : fa m with
      | none => rw [hf] at q; exact q
      | some z2 =>
        rw [hf] at q
        cases z2 with
        | exc c => exact q
        | ok d =>
          intro H1 v s1 rv
          dsimp only [bnd] at q
          cases d with
          | tuple ks =>
            dsimp only at q
            by_cases hk : ((keysOf ks).isSome && (allTup ds && !ds.isEmpty)) = true
            · rw [if_pos hk] at q
              simp only [Bool.and_eq_true] at hk
              obtain ⟨hk, ht, hne⟩ := hk
              obtain ⟨k, hk⟩ := Option.isSome_iff_exists.mp hk
              have ek := keysOf_eq hk
              subst ek
              obtain ⟨b, ys, rfl, h1, h2⟩ := rp1_tupP (rv.rp1 r.ok)
              have ev := rpAll_keys h2
              subst ev
              rcases e3 with ⟨kvs, h3, h4⟩ | ⟨kvs, h3, h4⟩
              · obtain ⟨_, z⟩ := h4.notTup ht
                rw [z] at hne
                cases hne
              · refine ⟨.ref a, e1, a, valV kvs k, rfl, .inr ⟨kvs, k, b, .inl (s1 _ _ h3), rfl, h1, rfl⟩, ?_⟩
                refine ⟨_, rfl, ?_⟩
                have e4 : (!(valV kvs k).isSome) = (valT ds (.tuple (k.map keyD))).isNone := by
                  rw [h4.valN]
                  cases valT ds (.tuple (k.map keyD)) <;> rfl
                rw [e4]
                exact q H1 s1
            · rw [if_neg hk] at q
              exact q.elim
          | none => exact q.elim
          | bool b => exact q.elim
          | int b => exact q.elim
          | str b => exact q.elim
          | list b => exact q.elim
          | dict b => exact q.elim
    | own ds => exact q.elim
    | un => exact q.elim
    | dat d => exact q.elim
    | exc c => exact q.elim
end
end MP

set_option Elab.async false
set_option linter.all false
set_option maxRecDepth 100000
set_option maxHeartbeats 1000000
namespace MP
open PySem PySem.Spec PyProof.Rows L2
section
variable {X : Cx} {W : WX} {F : List Addr} {l l1 l2 l3 : Lv} {a b c e : Expr} {fa fb fc : E} {f g : S} {pos p p' p1 p2 p3 : Pos} {st : Stmt} {es : List Expr} {fe : E} {i : Nat} {x : Str}
/-- found[k] = e, the key a tuple -/
def sDPutN (i : Nat) (fk fv : E) : S := fun m => match m[i]? with
  | some (.odc ds) => if allTup ds && !ds.isEmpty then (bndS (fv m) m fun d => match fk m with
    | some (.ok (.tuple ks)) => if (keysOf ks).isSome && decide (ds.length < line) then some (.nx (m.set i (.odc (putT ds (.tuple ks) d)))) else none
    | _ => none) else none
  | _ => none
theorem s_dputN {fk fv : E} (hu : X.A.units + 65 < cLine) (hN : X.N[i]? = some x) (hv : Vis X.env.scope x) (hk : JE .s X W b fk) (he : JE .s X W e fv) (hd : (x == ("__debug__" : Str)) = false := by decide) (hcd : (x == ("__classdict__" : Str)) = false := by decide)
    (hs : swapsWith e (some (.Subscript (.Name x p) b p2)) pos.line X.env = pure false := by rfl) :
    JS X W F (.Assign [.Subscript (.Name x p) b p2] e pos) (sDPutN i fk fv) := by
  refine ⟨PS.imp (ps_dput (by omega) (pe_var hN hv hd hcd) hk.pe he.pe hs) ?_⟩
  intro D σ H ⟨O, m, r, q⟩
  unfold sDPutN at q
  cases hm : m[i]? with
  | none => rw [hm] at q; exact q.elim
  | some z =>
    rw [hm] at q
    cases z with
    | odc ds =>
      dsimp only at q
      by_cases ht : (allTup ds && !ds.isEmpty) = true
      · rw [if_pos ht] at q
        obtain ⟨ht, hne⟩ := Bool.and_eq_true_iff.mp ht
        obtain ⟨a, e1, e2, ⟨kvs, e3, e4⟩ | ⟨kvs, e3, e4⟩⟩ := r.r.odc i ds hm
        · obtain ⟨_, z⟩ := e4.notTup ht
          rw [z] at hne
          cases hne
        · refine rdS r q fun d H1 v s1 rv q => ?_
          refine ⟨.ref a, e1, ?_⟩
          have r1 := r.same s1
          refine ⟨O, m, r1.r, ?_⟩
          cases hk2 : fk m with
          | none => rw [hk2] at q; exact q.elim
          | some z =>
            rw [hk2] at q
            cases z with
            | exc c => exact q.elim
            | ok kd =>
              cases kd with
              | tuple ks =>
                dsimp only at q
                intro H2 y s2 ry
                by_cases hc : ((keysOf ks).isSome && decide (ds.length < line)) = true
                · rw [if_pos hc] at q
                  simp only [Bool.and_eq_true, decide_eq_true_eq] at hc
                  obtain ⟨c2, c4⟩ := hc
                  obtain ⟨k, hk3⟩ := Option.isSome_iff_exists.mp c2
                  have ek := keysOf_eq hk3
                  subst ek
                  obtain ⟨bb, ys, rfl, h1, h2⟩ := rp1_tupP (Rp.one ry)
                  have ev := rpAll_keys h2
                  subst ev
                  have h3 : H2 a = some (.dT kvs) := s2 _ _ (s1 _ _ e3)
                  refine ⟨a, _, rfl, DPut.t h3 h1 (by rw [e4.length]; exact line_lt (Nat.le_of_lt c4)), ?_⟩
                  have r3 := r1.same s2
                  obtain ⟨r4, f4, fre⟩ := r3.chg (o := .dT (putK kvs k v)) i (.inr ⟨_, hm⟩) e1 e2 (.inr (.inr ⟨_, rfl⟩))
                  have hx : RpT X.K O (upd H2 a (.dT (putK kvs k v))) (putK kvs k v) (putT ds (.tuple (k.map keyD)) d) :=
                    (((e4.same s1).same s2).put (rv.same s2)).fr ⟨f4, r3.r.ok⟩
                  have r5 := r4.setC e2 (r.mine i a (.inr ⟨_, hm⟩) e1) (.inr ⟨_, upd_same, hx⟩) fre i
                  rw [set_un_set, set_same e1] at r5
                  exact q O σ _ r5 (Fr.trans (Fr.of_same s2) f4)
                · rw [if_neg hc] at q
                  exact q.elim
              | none => exact q.elim
              | bool b => exact q.elim
              | int b => exact q.elim
              | str b => exact q.elim
              | list b => exact q.elim
              | dict b => exact q.elim
      · rw [if_neg ht] at q
        exact q.elim
    | own ds => exact q.elim
    | un => exact q.elim
    | dat d => exact q.elim
    | exc c => exact q.elim
/-! ### i in range(n) -/
def gInRg : MP.D → MP.D → Option MP.D
  | .int i, .int n => some (.bool (decide (0 ≤ i ∧ i < n)))
  | _, _ => none
theorem cr_range1 : CallR X (.type "range") (fun vs H Q => ∃ j, vs = [V.int j] ∧ ∀ p, H p = none → Q (.ref p) (upd H p (.rng 0 j))) := by
  intro pins s σ H vs us Q I r h
  obtain ⟨j, rfl, q⟩ := h
  obtain ⟨u1, rfl, rj⟩ := vals1 r
  obtain ⟨t, rfl⟩ := rj
  refine call_range_1 ⟨.ref s.heap.objs.size, upd H s.heap.objs.size (.rng 0 j), I.laid (t' := s.toks + 1 + 1) (fun b o e => Heap.get?_push_of_some _ e) (Nat.le_refl _) ?_, rfl, q _ (I.hok.fresh (Nat.le_refl _))⟩
  exact ⟨s.toks, t, s.toks + 1, Heap.get?_push_size _ rfl⟩
theorem t_inRg1 (m2 : X.mg "range" = none) (g2 : Gl X "range") (ha : JE l1 X W a fa) (hb : JE l2 X W b fb)
    (hm0 : behindInMarks .In (.Call (.Name "range" p1) [b] [] p2) = false := by with_unfolding_all rfl) (na : starEach [b] X.env = (false, eval b X.env) :: starEach [] X.env := by rfl) (hpl : (backTo p2 (starEach [] X.env)).any (·.1) = false := by rfl) :
    JT X W (.Compare a [.In] [.Call (.Name "range" p1) [b] [] p2] pos) (eOp2 gInRg fa fb) := by
  refine ⟨PT.imp (pt_cmpR op_in_rng ha.pe (pe_callTy cr_range1 g2 m2 boot_range (pa_cons hb.pe pa_nil na) (by decide) (by decide) na hpl) hm0) ?_⟩
  intro σ H Q ⟨O, m, rf, q⟩
  refine ⟨O, m, rf, ?_⟩
  unfold eOp2 at q
  cases hf : fa m with
  | none => rw [hf] at q; exact q
  | some z =>
    rw [hf] at q
    cases z with
    | exc c => exact q
    | ok d =>
      intro H1 v s1 r1
      dsimp only [bnd] at q
      refine ⟨O, m, rf.same s1, ?_⟩
      cases hf2 : fb m with
      | none => rw [hf2] at q; exact q
      | some z2 =>
        rw [hf2] at q
        cases z2 with
        | exc c => exact fun H' C e1 e2 => q H' C (s1.trans e1) e2
        | ok d2 =>
          intro H2 v2 s2 r2
          dsimp only [bnd] at q
          cases hq : gInRg d d2 with
          | none => rw [hq] at q; exact q.elim
          | some d3 =>
            rw [hq] at q
            unfold gInRg at hq
            split at hq
            · rename_i i j
              cases hq
              have ev := rp1_int (r1.rp1 rf.ok)
              have ev2 := rp1_int (r2.rp1 (rf.ok.same s1))
              subst ev ev2
              refine ⟨j, rfl, fun p hp => ⟨i, p, 0, j, rfl, rfl, upd_same, _, rfl, q _ ((s1.trans s2).trans (same_upd hp))⟩⟩
            · cases hq
/-! ### dict(pairs), keys that are tuples -/
def mergeT (acc : List (List Key × V)) (more : List (List Key × Addr × V)) : List (List Key × V) := more.foldl (fun acc kv => putK acc kv.1 kv.2.2) acc
theorem mergeT_len : ∀ (more : List (List Key × Addr × V)) (acc : List (List Key × V)), (mergeT acc more).length ≤ acc.length + more.length
  | [], acc => by show acc.length ≤ acc.length + 0; omega
  | p :: r, acc => by
    have h1 := mergeT_len r (putK acc p.1 p.2.2)
    have h2 := length_putK acc p.1 p.2.2
    show (mergeT (putK acc p.1 p.2.2) r).length ≤ _
    rw [List.length_cons]; omega
/-- the pairs at the list's tuples -/
def PrsT (K : PySem.W.Frag) (H : Hp) : List Addr → List (List Key × Addr × V) → Prop := Paired fun p kv => SqT K H p [.ref kv.2.1, kv.2.2] ∧ H kv.2.1 = some (.tup (kv.1.map kV))
def rDictT (K : PySem.W.Frag) : List V → Hp → VK → Prop := fun xs H Q => ∃ (a : Addr) (ps : List Addr) (kvs : List (List Key × Addr × V)), xs = [.ref a] ∧ SqL K H a (ps.map V.ref) ∧ PrsT K H ps kvs ∧ ∀ p, H p = none → Q (.ref p) (upd H p (.dT (mergeT [] kvs)))
theorem prsT_of {pins : List (Addr × Obj)} {σ : L2.St} {H : Hp} {s : Shared} (I : L2.Inv X pins σ H s) : ∀ {ps : List Addr} {kvs : List (List Key × Addr × V)}, PrsT X.K H ps kvs →
    ∃ vs : List (List Key × Addr × Value), vs.length = ps.length ∧ Paired (fun (p : List Key × Addr × V) (q : List Key × Addr × Value) => p.1 = q.1 ∧ p.2.1 = q.2.1 ∧ H q.2.1 = some (.tup (q.1.map kV)) ∧ RelV p.2.2 q.2.2) kvs vs ∧
      ∀ (j : Nat) (q : List Key × Addr × Value), vs[j]? = some q → ∃ b : Addr, ps[j]? = some b ∧ s.heap.IsTuple b #[.ref q.2.1, q.2.2]
  | _, _, .nil => ⟨[], rfl, .nil, fun j q e => by simp at e⟩
  | _, _, .cons (a := p) (b := kv) h t => by
    obtain ⟨vs, hl, hr, hp⟩ := prsT_of I t
    obtain ⟨its, rv, ht, _⟩ := I.tuple h.1
    obtain ⟨u, y, ei, ru, ry⟩ := vals2 rv
    subst ei
    obtain rfl : u = Value.ref kv.2.1 := ru
    refine ⟨(kv.1, kv.2.1, y) :: vs, by rw [List.length_cons, List.length_cons, hl], .cons ⟨rfl, rfl, h.2, ry⟩ hr, fun j q e => ?_⟩
    cases j with
    | zero =>
      have e' : (kv.1, kv.2.1, y) = q := Option.some.inj e
      subst e'
      exact ⟨p, rfl, ht⟩
    | succ j =>
      obtain ⟨b, e1, e2⟩ := hp j q (by simpa using e)
      exact ⟨b, by simpa using e1, e2⟩
theorem KT.merge {H : Hp} : ∀ {kvs : List (List Key × Addr × V)} {vs : List (List Key × Addr × Value)} {acc : List (List Key × V)} {xs : List (List Key × Addr × Value)},
    Paired (fun (p : List Key × Addr × V) (q : List Key × Addr × Value) => p.1 = q.1 ∧ p.2.1 = q.2.1 ∧ H q.2.1 = some (.tup (q.1.map kV)) ∧ RelV p.2.2 q.2.2) kvs vs → KT H acc xs → KT H (mergeT acc kvs) (storedAllH xs vs)
  | _, _, _, _, .nil, r => r
  | _, _, acc, xs, .cons (a := p) (b := q) h t, r => by
    obtain ⟨h1, h2, h3, h4⟩ := h
    have := r.put q.1 (b := q.2.1) h3 h4
    refine KT.merge (acc := putK acc p.1 p.2.2) (xs := storedH xs q.1 q.2.1 q.2.2) t ?_
    rw [h1]
    exact this
theorem call_dictT (hc : X.calm = true) (hu : X.A.units + 65 < cLine) : CallR X (.type "dict") (rDictT X.K) := by
  intro pins s σ H xs us Q I r q
  obtain ⟨a, ps, kvs, ex, hq, hp, q⟩ := q
  subst ex
  obtain ⟨u, eu, rx⟩ := vals1 r
  subst eu
  cases rx
  obtain ⟨its, rv, pl, hz⟩ := I.list hq
  have ei := refs_at rv
  subst ei
  rw [List.length_map] at hz
  obtain ⟨vs, hl, rel, hpr⟩ := prsT_of I hp
  obtain ⟨o, n, ho, hcl, hd, hdat⟩ := pl
  have hkl : kvs.length = vs.length := Paired.length rel
  have keyAt : ∀ x ∈ vs, H x.2.1 = some (.tup (x.1.map kV)) := by
    clear hpr hl hkl q hp
    induction rel with
    | nil => intro x hx; exact nomatch hx
    | cons h t ih =>
      intro x hx
      rcases List.mem_cons.mp hx with e | hx
      · subst e; exact h.2.2.1
      · exact ih x hx
  refine call_dict_pairsH (knd := tupleKind (mixKind X.prog X.w)) (PairArg.list a (ps.map Value.ref).toArray (fun j => ps.getD j 0) (vs.map fun q => (Value.ref q.2.1, q.2.2))) (ps := vs) (I.ok.hd hc) (show X.A.units + 1 + 1 < cLine by omega)
    ⟨⟨o, n, ho, hcl, hd, hdat⟩, by simp [hl], fun j k v e => ?_⟩ ⟨by simp, fun j key v e => ?_⟩ (fun h' hk x hx => ?_) (by rw [List.length_map, hl]; exact hz) fun h' tk hd' hk => ?_
  · rw [List.getElem?_map] at e
    obtain ⟨q0, e1, e2⟩ := Option.map_eq_some_iff.mp e
    cases e2
    obtain ⟨b, e3, e4⟩ := hpr j q0 e1
    have e5 : ps.getD j 0 = b := by rw [List.getD_eq_getElem?_getD, e3]; rfl
    show _ = some (Value.ref (ps.getD j 0)) ∧ PairAt s.heap (ps.getD j 0) _ _
    rw [e5]
    exact ⟨by simp [e3], .inl e4⟩
  · have e : (vs.map fun q => (Value.ref q.2.1, q.2.2))[j]? = some (key, v) := e
    rw [List.getElem?_map] at e
    obtain ⟨q0, e1, e2⟩ := Option.map_eq_some_iff.mp e
    cases e2
    exact ⟨q0.1, q0.2.1, e1, rfl⟩
  · obtain ⟨ob, itsb, nb, hb, hb2, hb3, hb4⟩ := key_of I.hok (keyAt x hx)
    exact ⟨ob, itsb, nb, hk _ _ (Nat.ne_of_lt (Heap.lt_size hb)) (by simp) hb, hb2, hb3, hb4⟩
  · have hm : (s.heap.objs.size == sysModules) = false := beq_eq_false_iff_ne.mpr (Nat.ne_of_gt I.big)
    have hlen : (mergeT [] kvs).length ≤ sizeLine := by
      refine Nat.le_trans (mergeT_len kvs []) ?_
      rw [List.length_nil, Nat.zero_add, hkl, hl]
      exact hz
    have hfree := I.hok.fresh (Nat.le_refl s.heap.objs.size)
    obtain ⟨qo, es, ep, h1, h2, h3, h4, _, h5⟩ := hd'
    have kt0 : KT H [] [] := .nil
    refine ⟨.ref s.heap.objs.size, upd H s.heap.objs.size (.dT (mergeT [] kvs)), I.laid (t' := tk) (fun b o e => hk b o (by simp) e) (Nat.le_refl _)
      (show ObjOk X.prog X.w _ _ _ (.dT (mergeT [] kvs)) from ⟨hlen, hm, _, (KT.merge rel kt0).keeps fun c ys ec => ?_, qo, es, ep, h1, h2, h3, h4, h5⟩), rfl, q _ hfree⟩
    rw [upd_ne (ne_of_none ec hfree)]
    exact ec
def pairsT : List MP.D → Option (List (MP.D × MP.D))
  | [] => some []
  | .tuple [.tuple ks, v] :: r => if (keysOf ks).isSome then (pairsT r).map ((.tuple ks, v) :: ·) else none
  | _ => none
def mrgT (ds ps : List (MP.D × MP.D)) : List (MP.D × MP.D) := ps.foldl (fun acc e => putT acc e.1 e.2) ds
theorem pairsT_rp {K : PySem.W.Frag} {O : List Addr} {H : Hp} : ∀ {xs : List MP.D} {ps : List (MP.D × MP.D)} {ys : List V}, pairsT xs = some ps → RpAll K O H ys xs →
    ∃ (as : List Addr) (kvs : List (List Key × Addr × V)), ys = as.map V.ref ∧ PrsT K H as kvs ∧ RpT K O H (kvs.map fun kv => (kv.1, kv.2.2)) ps
  | [], ps, ys, h, r => by
    cases r
    cases h
    exact ⟨[], [], rfl, .nil, .nil⟩
  | x :: xs, ps, ys, h, r => by
    cases r with
    | cons r1 r2 =>
      unfold pairsT at h
      split at h
      · rename_i heq; cases heq
      · rename_i ks v rest heq
        cases heq
        by_cases hk : (keysOf ks).isSome = true
        · rw [if_pos hk] at h
          obtain ⟨ps', h1, h2⟩ := Option.map_eq_some_iff.mp h
          subst h2
          obtain ⟨k, hk⟩ := Option.isSome_iff_exists.mp hk
          have ek := keysOf_eq hk
          subst ek
          obtain ⟨as, kvs, e1, e2, e3⟩ := pairsT_rp h1 r2
          obtain ⟨a, zs, rfl, ha, hz⟩ := rp1_tupP (Rp.one r1)
          cases hz with
          | cons z1 z2 =>
            cases z2 with
            | cons z2 z3 =>
              cases z3
              obtain ⟨b, ws, rfl, hb, hw⟩ := rp1_tupP (Rp.one z1)
              have ev := rpAll_keys hw
              subst ev
              exact ⟨a :: as, (k, b, _) :: kvs, by rw [e1]; rfl, .cons ⟨.inl (.inl ha), hb⟩ e2, .cons z2 e3⟩
        · rw [if_neg hk] at h
          cases h
      · cases h
theorem RpT.merge {K : PySem.W.Frag} {O : List Addr} {H : Hp} : ∀ {kvs : List (List Key × Addr × V)} {ps : List (MP.D × MP.D)} {acc : List (List Key × V)} {ds : List (MP.D × MP.D)}, RpT K O H (kvs.map fun kv => (kv.1, kv.2.2)) ps → RpT K O H acc ds → RpT K O H (mergeT acc kvs) (mrgT ds ps)
  | [], ps, acc, ds, h, r => by
    cases h
    exact r
  | kv :: kvs, ps, acc, ds, h, r => by
    rw [List.map_cons] at h
    cases h with
    | cons a b =>
      have q := RpT.merge (acc := putK acc kv.1 kv.2.2) b (r.put a)
      exact q
/-- x = dict(pairs) -/
def sDictT (i : Nat) (fe : E) : S := fun m => bndS (fe m) m fun d => match d with
  | .list xs => (match pairsT xs with
    | some ps => some (.nx (m.set i (.odc (mrgT [] ps))))
    | none => none)
  | _ => none
theorem s_dictT (hc : X.calm = true) (hu : X.A.units + 65 < cLine) (hm : X.mg "dict" = none) (hgl : Gl X "dict") (hN : X.N.Nodup) (hi : X.N[i]? = some x) (hx : Loc X.env.scope x) (he : JE .w X W e fe) (hf : X.fn x = true ∨ X.env.scope.names.lookup x = some .local)
    (na : starEach [e] X.env = (false, eval e X.env) :: starEach [] X.env := by rfl) (hpl : (backTo p1 (starEach [] X.env)).any (·.1) = false := by rfl) (hs : swapsWith (.Call (.Name "dict" p) [e] [] p1) (some (.Name x p')) pos.line X.env = pure false := by rfl) :
    JS X W F (.Assign [.Name x p'] (.Call (.Name "dict" p) [e] [] p1) pos) (sDictT i fe) := by
  refine ⟨PS.imp (ps_set hN hi hx (pe_callTy (call_dictT hc hu) hgl hm PyProof.Rows.boot_dict (pa_cons he.pe pa_nil na) (by decide) (by decide) na hpl) hs hf) ?_⟩
  intro D σ H ⟨O, m, r, q⟩
  refine rdS r q fun d H1 v s1 rv q => ?_
  cases d with
  | list xs =>
    dsimp only at q
    cases hps : pairsT xs with
    | none => rw [hps] at q; exact q.elim
    | some ps =>
      rw [hps] at q
      obtain ⟨a, ys, rfl, h1, h2⟩ := rv
      obtain ⟨as, kvs, rfl, e2, e3⟩ := pairsT_rp hps h2
      refine ⟨a, as, kvs, rfl, h1, e2, fun p hp => ?_⟩
      have r1 := r.same s1
      obtain ⟨r2, f2, n2, nF⟩ := r1.grow (same_upd (o := .dT (mergeT [] kvs)) hp) hp upd_same (.inr (.inr ⟨_, rfl⟩))
      have hx : RpT X.K (p :: O) (upd H1 p (.dT (mergeT [] kvs))) (mergeT [] kvs) (mrgT [] ps) := (RpT.merge e3 .nil).fr ⟨fr_new hp, r1.r.ok⟩
      exact q _ _ _ (r2.setC List.mem_cons_self nF (.inr ⟨_, upd_same, hx⟩) n2 i) f2
  | none => exact q.elim
  | bool b => exact q.elim
  | int b => exact q.elim
  | str b => exact q.elim
  | tuple b => exact q.elim
  | dict b => exact q.elim
end
end MP

set_option Elab.async false
set_option linter.all false
set_option maxRecDepth 100000
set_option maxHeartbeats 1000000
namespace MP
open PySem PySem.Spec PyProof.Rows L2
/-! ### sorted(set(xs)), len(set(xs)): pairs of small ints -/
def codesD : List MP.D → Option (List Int)
  | [] => some []
  | .tuple [.int a, .int b] :: r => if (0 ≤ a ∧ a < 64) ∧ 0 ≤ b ∧ b < 64 then (codesD r).map ((a * 64 + b) :: ·) else none
  | _ :: _ => none
def unc (c : Int) : MP.D := .tuple [.int (c / 64), .int (c % 64)]
def bUSortP : List MP.D → Option MP.D
  | [.list xs] => (codesD xs).bind fun ns => if ns.length < 64 then some (.list ((usrt ns).map unc)) else none
  | _ => none
def bLenSetP : List MP.D → Option MP.D
  | [.list xs] => (codesD xs).bind fun ns => if ns.length < 64 then some (.int ((usrt ns).length : Nat)) else none
  | _ => none
/-- a pair of small ints at an address -/
def PrI (H : Hp) (p : Addr × List Int) : Prop := H p.1 = some (.tup (p.2.map V.int)) ∧ ∃ a b : Int, p.2 = [a, b] ∧ (0 ≤ a ∧ a < 64) ∧ 0 ≤ b ∧ b < 64
theorem codes_rp {K : PySem.W.Frag} {O : List Addr} {H : Hp} : ∀ {xs : List MP.D} {ns : List Int} {ys : List V}, codesD xs = some ns → RpAll K O H ys xs → ∃ ks : List (Addr × List Int), ys = ks.map (fun p => V.ref p.1) ∧ (∀ p ∈ ks, PrI H p) ∧ ks.map (fun p => TS.code 64 p.2) = ns
  | [], ns, ys, h, r => by
    cases r
    cases h
    exact ⟨[], rfl, fun p hp => (nomatch hp), rfl⟩
  | x :: xs, ns, ys, h, r => by
    cases r with
    | cons r1 r2 =>
      unfold codesD at h
      split at h
      · rename_i heq; cases heq
      · rename_i a b rest heq
        cases heq
        by_cases hk : (0 ≤ a ∧ a < 64) ∧ 0 ≤ b ∧ b < 64
        · rw [if_pos hk] at h
          obtain ⟨ns', h1, h2⟩ := Option.map_eq_some_iff.mp h
          subst h2
          obtain ⟨ks, e1, e2, e3⟩ := codes_rp h1 r2
          obtain ⟨p, zs, rfl, hp, hz⟩ := rp1_tupP (Rp.one r1)
          have ez : zs = [V.int a, V.int b] := RpAll.ints (ns := [a, b]) hz
          subst ez
          refine ⟨(p, [a, b]) :: ks, by rw [e1]; rfl, fun q hq => ?_, by rw [List.map_cons, e3, code_pair]⟩
          rcases List.mem_cons.mp hq with rfl | hq
          · exact ⟨hp, a, b, rfl, hk⟩
          · exact e2 q hq
        · rw [if_neg hk] at h
          cases h
      · cases h
theorem PrI.unc {K : PySem.W.Frag} {O : List Addr} {H : Hp} {p : Addr × List Int} (h : PrI H p) : Rp K O H (.ref p.1) (MP.unc (TS.code 64 p.2)) := by
  obtain ⟨h1, a, b, e, ha, hb⟩ := h
  rw [e, code_pair]
  have e1 : (a * 64 + b) / 64 = a := by omega
  have e2 : (a * 64 + b) % 64 = b := by omega
  unfold MP.unc
  rw [e1, e2]
  rw [e] at h1
  exact .tup h1 (.cons (.int a) (.cons (.int b) .nil))
theorem code_inj {H : Hp} {p q : Addr × List Int} (hp : PrI H p) (hq : PrI H q) (e : TS.code 64 p.2 = TS.code 64 q.2) : p.2 = q.2 := by
  obtain ⟨_, a, b, ea, ha, hb⟩ := hp
  obtain ⟨_, c, d, ec, hc, hd⟩ := hq
  rw [ea, ec] at e ⊢
  rw [code_pair, code_pair] at e
  have e1 : a = c := by omega
  have e2 : b = d := by omega
  rw [e1, e2]
theorem codes_nodup {H : Hp} : ∀ {L : List (Addr × List Int)}, (∀ p ∈ L, PrI H p) → (L.map (·.2)).Nodup → (L.map fun p => TS.code 64 p.2).Nodup
  | [], _, _ => .nil
  | p :: L, h, hn => by
    rw [List.map_cons, List.nodup_cons] at hn
    rw [List.map_cons, List.nodup_cons]
    refine ⟨fun z => ?_, codes_nodup (fun q hq => h q (List.mem_cons_of_mem _ hq)) hn.2⟩
    obtain ⟨q, hq, e⟩ := List.mem_map.mp z
    exact hn.1 (List.mem_map.mpr ⟨q, hq, code_inj (h q (List.mem_cons_of_mem _ hq)) (h p List.mem_cons_self) e⟩)
theorem lt_of_le_nodup : ∀ {l : List Int}, l.Pairwise (· ≤ ·) → l.Nodup → l.Pairwise (· < ·)
  | [], _, _ => .nil
  | x :: l, h, hn => by
    rw [List.pairwise_cons] at h ⊢
    rw [List.nodup_cons] at hn
    refine ⟨fun y hy => ?_, lt_of_le_nodup h.2 hn.2⟩
    have := h.1 y hy
    have : x ≠ y := fun e => hn.1 (e ▸ hy)
    omega
section
variable {X : Cx} {W : WX} {F : List Addr} {l l1 l2 l3 : Lv} {a b c e : Expr} {fa fb fc : E} {pos p p' p1 p2 p3 : Pos} {es : List Expr} {fe : EL} {ff : E} {i : Nat} {x : Str}
theorem one_listW {O : List Addr} {H : Hp} {K : PySem.W.Frag} {vs : List V} {xs : List MP.D} (r : RvA .w K O H vs [.list xs]) : ∃ a ys, vs = [.ref a] ∧ SqL K H a ys ∧ RpAll K O H ys xs := by
  obtain ⟨v, rfl, a, ys, rfl, e1, e2⟩ := pair_one r
  exact ⟨a, ys, rfl, e1, e2⟩
theorem j_usortP (hc : X.calm = true) (hu : X.A.units + 65 < cLine) (m1 : X.mg "sorted" = none) (m2 : X.mg "set" = none) (g1 : Gl X "sorted") (g2 : Gl X "set") (ha : JA .w X W [e] fe)
    (hs : starEach [e] X.env = (false, eval e X.env) :: starEach [] X.env := by rfl) (hs2 : starEach [Expr.Call (.Name "set" p1) [e] [] p2] X.env = (false, eval (.Call (.Name "set" p1) [e] [] p2) X.env) :: starEach [] X.env := by rfl) :
    JE .f X W (.Call (.Name "sorted" p) [.Call (.Name "set" p1) [e] [] p2] [] pos) (eFn (fun ds => ret (bUSortP ds)) fe) := by
  have h1 : PE X (.Call (.Name "set" p1) [e] [] p2) (tCB (rSetOfT X.K X.prog X.w) (RdA .w X W fe)) := pe_callTy (cr_setOfT hc (by omega)) g2 m2 PyProof.Rows.boot_set ha (by decide) (by decide) hs rfl
  refine ⟨PE.imp (pe_callB (cr_sortedT hc) g1 m1 PyProof.Rows.boot_sorted (pa_cons h1 pa_nil hs2) (by decide) (by decide) hs2 rfl) ?_⟩
  intro σ H Q q
  refine fn_core q fun O m ds H1 vs rf e1 r1 q => ?_
  cases hb : bUSortP ds with
  | none => rw [hb] at q; exact q.elim
  | some d =>
    rw [hb] at q
    unfold bUSortP at hb
    split at hb
    · rename_i xs
      cases hi : codesD xs with
      | none => rw [hi] at hb; cases hb
      | some ns =>
        rw [hi] at hb
        obtain ⟨a, ys, rfl, hsl, hr⟩ := one_listW r1
        obtain ⟨ks, rfl, hks, hcode⟩ := codes_rp hi hr
        have hkl : ks.length = ns.length := by rw [← hcode, List.length_map]
        by_cases hz : ns.length < 64
        · have hb : some (PyData.list ((usrt ns).map unc)) = some d := by rw [← hb]; exact (if_pos hz).symm
          cases hb
          refine ⟨a, ks, rfl, hsl, fun q hq => .inl (.inl (hks q hq).1), by omega, fun p L hp hL1 hL2 => ?_⟩
          have s1 := same_upd (o := SetTO X.prog X.w p L) hp
          have hLP : ∀ q ∈ L, PrI H1 q := fun q hq => hks q (hL1 q hq)
          refine ⟨p, L, 2, 64, rfl, upd_same, fun q hq => .inl (.inl (s1 _ _ (hLP q hq).1)), by omega, fun q hq => ?_, fun L' p2 pm nd few pw hp2 => ?_⟩
          · obtain ⟨_, u, v, e, hu, hv⟩ := hLP q hq
            rw [e]
            refine ⟨rfl, fun z hz => ?_⟩
            have : z = u ∨ z = v := by simpa using hz
            rcases this with rfl | rfl
            · exact hu
            · exact hv
          · have hL'P : ∀ q ∈ L', PrI H1 q := fun q hq => hLP q (pm.mem_iff.mp hq)
            have hcd : L'.map (fun q => TS.code 64 q.2) = usrt ns := by
              refine usrt_unique (lt_of_le_nodup (by rw [List.pairwise_map]; exact pw) (codes_nodup hL'P nd)) fun z => ?_
              rw [← hcode]
              constructor
              · intro hz
                obtain ⟨q, hq, rfl⟩ := List.mem_map.mp hz
                exact List.mem_map.mpr ⟨q, hL1 q (pm.mem_iff.mp hq), rfl⟩
              · intro hz
                obtain ⟨q, hq, rfl⟩ := List.mem_map.mp hz
                obtain ⟨r, hr, er⟩ := List.mem_map.mp (hL2 q hq)
                exact List.mem_map.mpr ⟨r, pm.mem_iff.mpr hr, by rw [er]⟩
            rw [← hcd] at q
            have s2 := same_upd (o := .lst (L'.map fun q => V.ref q.1)) hp2
            have ok1 : OwnOk O H1 := rf.ok.same e1
            have hrp : RpAll X.K O (upd H1 p (SetTO X.prog X.w p L)) (L'.map fun q => V.ref q.1) ((L'.map fun q => TS.code 64 q.2).map unc) := by
              clear pm nd few pw hcd s2 q
              induction L' with
              | nil => exact .nil
              | cons z L' ih =>
                refine .cons ?_ (ih fun y hy => hL'P y (List.mem_cons_of_mem _ hy))
                exact (PrI.unc (hL'P z List.mem_cons_self)).same s1
            exact q _ _ (s1.trans s2) ⟨p2, _, rfl, s1.free hp2, upd_same, rp_new hrp (ok1.same s1) hp2⟩
        · have hb : none = some d := by rw [← hb]; exact (if_neg hz).symm
          cases hb
    · cases hb
def rLenT (K : PySem.W.Frag) (P : Program) (w : World) : List V → Hp → VK → Prop := fun vs H Q => ∃ (a : Addr) (L : List (Addr × List Int)), vs = [V.ref a] ∧ H a = some (SetTO P w a L) ∧ (∀ p ∈ L, SqT K H p.1 (p.2.map V.int)) ∧ ((L.map (·.2)).Nodup → Q (.int L.length) H)
theorem cr_lenT (hc : X.calm = true) : CallR X (.builtin "len") (rLenT X.K X.prog X.w) := by
  intro pins s σ H vs us Q I r h
  obtain ⟨a, L, rfl, ha, hk, q⟩ := h
  have R0 : SetT0 X.prog X.w s.heap a L := (I.hok a _ ha).1
  obtain ⟨es, ep, t, R⟩ := R0.full fun p hp => I.isT (hk p hp)
  rw [Vals.ref1 r]
  obtain ⟨o, ho, hex, hd⟩ := R.ob
  have hn : es.size = L.length := R.size
  have hfew := R.few
  exact call_len_set ho hex hd R.fits (by rw [hn]; omega) ⟨.int L.length, H, I.tok _, ⟨_, by rw [hn]⟩, q R.nd⟩
theorem j_lenSetP (hc : X.calm = true) (hu : X.A.units + 65 < cLine) (m1 : X.mg "len" = none) (m2 : X.mg "set" = none) (g1 : Gl X "len") (g2 : Gl X "set") (ha : JA .w X W [e] fe)
    (hs : starEach [e] X.env = (false, eval e X.env) :: starEach [] X.env := by rfl) (hs2 : starEach [Expr.Call (.Name "set" p1) [e] [] p2] X.env = (false, eval (.Call (.Name "set" p1) [e] [] p2) X.env) :: starEach [] X.env := by rfl) :
    JE .s X W (.Call (.Name "len" p) [.Call (.Name "set" p1) [e] [] p2] [] pos) (eFn (fun ds => ret (bLenSetP ds)) fe) := by
  have h1 : PE X (.Call (.Name "set" p1) [e] [] p2) (tCB (rSetOfT X.K X.prog X.w) (RdA .w X W fe)) := pe_callTy (cr_setOfT hc (by omega)) g2 m2 PyProof.Rows.boot_set ha (by decide) (by decide) hs rfl
  refine ⟨PE.imp (pe_callB (cr_lenT hc) g1 m1 boot_len (pa_cons h1 pa_nil hs2) (by decide) (by decide) hs2 rfl) ?_⟩
  intro σ H Q q
  refine fn_core q fun O m ds H1 vs rf e1 r1 q => ?_
  cases hb : bLenSetP ds with
  | none => rw [hb] at q; exact q.elim
  | some d =>
    rw [hb] at q
    unfold bLenSetP at hb
    split at hb
    · rename_i xs
      cases hi : codesD xs with
      | none => rw [hi] at hb; cases hb
      | some ns =>
        rw [hi] at hb
        obtain ⟨a, ys, rfl, hsl, hr⟩ := one_listW r1
        obtain ⟨ks, rfl, hks, hcode⟩ := codes_rp hi hr
        have hkl : ks.length = ns.length := by rw [← hcode, List.length_map]
        by_cases hz : ns.length < 64
        · have hb : some (PyData.int ((usrt ns).length : Nat)) = some d := by rw [← hb]; exact (if_pos hz).symm
          cases hb
          refine ⟨a, ks, rfl, hsl, fun q hq => .inl (.inl (hks q hq).1), by omega, fun p L hp hL1 hL2 => ?_⟩
          have s1 := same_upd (o := SetTO X.prog X.w p L) hp
          have hLP : ∀ q ∈ L, PrI H1 q := fun q hq => hks q (hL1 q hq)
          refine ⟨p, L, rfl, upd_same, fun q hq => .inl (.inl (s1 _ _ (hLP q hq).1)), fun nd => ?_⟩
          have hlen : L.length = (usrt ns).length := by
            have hpm : (L.map fun q => TS.code 64 q.2).Perm (usrt ns) := by
              refine (List.perm_ext_iff_of_nodup (codes_nodup hLP nd) ((usrt_sorted ns).imp fun {a b} h => Int.ne_of_lt h)).mpr fun z => ?_
              rw [mem_usrt, ← hcode]
              constructor
              · intro hz
                obtain ⟨q, hq, rfl⟩ := List.mem_map.mp hz
                exact List.mem_map.mpr ⟨q, hL1 q hq, rfl⟩
              · intro hz
                obtain ⟨q, hq, rfl⟩ := List.mem_map.mp hz
                obtain ⟨r, hr, er⟩ := List.mem_map.mp (hL2 q hq)
                exact List.mem_map.mpr ⟨r, hr, by rw [er]⟩
            rw [← hpm.length_eq, List.length_map]
          rw [hlen]
          exact q _ _ s1 .of_int
        · have hb : none = some d := by rw [← hb]; exact (if_neg hz).symm
          cases hb
    · cases hb
/-! ### dict(pairs), int keys -/
def pairsK : List MP.D → Option (List (MP.D × MP.D))
  | [] => some []
  | .tuple [.int k, v] :: r => (pairsK r).map ((.int k, v) :: ·)
  | _ => none
theorem pairsK_rp {K : PySem.W.Frag} {O : List Addr} {H : Hp} : ∀ {xs : List MP.D} {ps : List (MP.D × MP.D)} {ys : List V}, pairsK xs = some ps → RpAll K O H ys xs →
    ∃ (as : List Addr) (kvs : List (Key × V)), ys = as.map V.ref ∧ Paired (fun p kv => SqT K H p [kV kv.1, kv.2]) as kvs ∧ RpK K O H kvs ps
  | [], ps, ys, h, r => by
    cases r
    cases h
    exact ⟨[], [], rfl, .nil, .nil⟩
  | x :: xs, ps, ys, h, r => by
    cases r with
    | cons r1 r2 =>
      unfold pairsK at h
      split at h
      · rename_i heq; cases heq
      · rename_i k v rest heq
        cases heq
        obtain ⟨ps', h1, h2⟩ := Option.map_eq_some_iff.mp h
        subst h2
        obtain ⟨as, kvs, e1, e2, e3⟩ := pairsK_rp h1 r2
        obtain ⟨a, zs, rfl, ha, hz⟩ := rp1_tupP (Rp.one r1)
        cases hz with
        | cons z1 z2 =>
          cases z2 with
          | cons z2 z3 =>
            cases z3
            cases (show Rp K O H _ (.int k) from z1)
            exact ⟨a :: as, (.inl k, _) :: kvs, by rw [e1]; rfl, .cons (.inl (.inl ha)) e2, .cons (k := .inl k) z2 e3⟩
      · cases h
theorem RpK.merge {K : PySem.W.Frag} {O : List Addr} {H : Hp} : ∀ {kvs : List (Key × V)} {ps : List (MP.D × MP.D)} {acc : List (Key × V)} {ds : List (MP.D × MP.D)}, RpK K O H kvs ps → RpK K O H acc ds → RpK K O H (mergeK acc kvs) (mrgT ds ps)
  | [], ps, acc, ds, h, r => by
    cases h
    exact r
  | kv :: kvs, ps, acc, ds, h, r => by
    cases h with
    | cons a b =>
      rename_i k v d ds'
      have q := RpK.merge (acc := putK acc k v) b (r.put (k := k) a)
      exact q
def sDictK (i : Nat) (fe : E) : S := fun m => bndS (fe m) m fun d => match d with
  | .list xs => (match pairsK xs with
    | some ps => some (.nx (m.set i (.odc (mrgT [] ps))))
    | none => none)
  | _ => none
theorem s_dictK (hc : X.calm = true) (hm : X.mg "dict" = none) (hgl : Gl X "dict") (hN : X.N.Nodup) (hi : X.N[i]? = some x) (hx : Loc X.env.scope x) (he : JE .w X W e ff) (hf : X.fn x = true ∨ X.env.scope.names.lookup x = some .local)
    (na : starEach [e] X.env = (false, eval e X.env) :: starEach [] X.env := by rfl) (hpl : (backTo p1 (starEach [] X.env)).any (·.1) = false := by rfl) (hs : swapsWith (.Call (.Name "dict" p) [e] [] p1) (some (.Name x p')) pos.line X.env = pure false := by rfl) :
    JS X W F (.Assign [.Name x p'] (.Call (.Name "dict" p) [e] [] p1) pos) (sDictK i ff) := by
  refine ⟨PS.imp (ps_set hN hi hx (pe_callTy (call_dictP hc) hgl hm PyProof.Rows.boot_dict (pa_cons he.pe pa_nil na) (by decide) (by decide) na hpl) hs hf) ?_⟩
  intro D σ H ⟨O, m, r, q⟩
  refine rdS r q fun d H1 v s1 rv q => ?_
  cases d with
  | list xs =>
    dsimp only at q
    cases hps : pairsK xs with
    | none => rw [hps] at q; exact q.elim
    | some ps =>
      rw [hps] at q
      obtain ⟨a, ys, rfl, h1, h2⟩ := rv
      obtain ⟨as, kvs, rfl, e2, e3⟩ := pairsK_rp hps h2
      refine ⟨a, as, kvs, rfl, h1, e2, fun p hp => ?_⟩
      have r1 := r.same s1
      obtain ⟨r2, f2, n2, nF⟩ := r1.grow (same_upd (o := .dK (mergeK [] kvs)) hp) hp upd_same (.inr (.inl ⟨_, rfl⟩))
      have hx : RpK X.K (p :: O) (upd H1 p (.dK (mergeK [] kvs))) (mergeK [] kvs) (mrgT [] ps) := (RpK.merge e3 .nil).fr ⟨fr_new hp, r1.r.ok⟩
      exact q _ _ _ (r2.setC List.mem_cons_self nF (.inl ⟨_, upd_same, hx⟩) n2 i) f2
  | none => exact q.elim
  | bool b => exact q.elim
  | int b => exact q.elim
  | str b => exact q.elim
  | tuple b => exact q.elim
  | dict b => exact q.elim
/-! ### sorted(d), int keys -/
def bSortK : List MP.D → Option MP.D
  | [.dict ds] => (intsD (keysD ds)).bind fun ns => if ns.length < 64 then some (.list ((srt ns).map PyData.int)) else none
  | _ => none
theorem RpK.ints {K : PySem.W.Frag} {O : List Addr} {H : Hp} : ∀ {kvs : List (Key × V)} {ds : List (MP.D × MP.D)} {ns : List Int}, RpK K O H kvs ds → intsD (keysD ds) = some ns → kvs.map (·.1) = ns.map Sum.inl
  | _, _, ns, .nil, h => by
    cases h
    rfl
  | _, _, ns, .cons (k := k) (kvs := kvs) (ds := ds) a b, h => by
    have h : intsD (keyD k :: keysD ds) = some ns := h
    cases k with
    | inl i =>
      have h : (intsD (keysD ds)).map (i :: ·) = some ns := h
      obtain ⟨ns', h1, rfl⟩ := Option.map_eq_some_iff.mp h
      rw [List.map_cons, List.map_cons, RpK.ints b h1]
    | inr x => cases h
theorem RpT.noInts {K : PySem.W.Frag} {O : List Addr} {H : Hp} {kvs : List (List Key × V)} {ds : List (MP.D × MP.D)} {ns : List Int} (r : RpT K O H kvs ds) (h : intsD (keysD ds) = some ns) : ds = [] ∧ ns = [] := by
  cases r with
  | nil => cases h; exact ⟨rfl, rfl⟩
  | cons a b => cases h
def rSortK (K : PySem.W.Frag) : List V → Hp → VK → Prop := fun vs H Q => (∃ (a : Addr) (kvs : List (Key × V)) (ks : List Int), vs = [.ref a] ∧ Rd H a (.dK kvs) ∧ kvs.map (·.1) = ks.map Sum.inl ∧ ks.length < 64 ∧
    ∀ (ys : List Int) (p : Addr), ys.Perm ks → ys.Pairwise (· ≤ ·) → H p = none → Q (.ref p) (upd H p (.lst (ys.map V.int)))) ∨ rSortT K vs H Q
theorem cr_sortK (hc : X.calm = true) (hu : X.A.units + 65 < cLine) : CallR X (.builtin "sorted") (rSortK X.K) := by
  intro pins s σ H vs us Q I r h
  rcases h with h | h
  · exact call_sortedDI hc pins s σ H vs us Q I r h
  · exact cr_sortT hc hu pins s σ H vs us Q I r h
theorem od_sortK {K : PySem.W.Frag} : OpDL K .f (rSortK K) bSortK := by
  intro O H vs ds d Q ok r h q
  unfold bSortK at h
  split at h
  · rename_i ds
    cases hi : intsD (keysD ds) with
    | none => rw [hi] at h; cases h
    | some ns =>
      rw [hi] at h
      by_cases hz : ns.length < 64
      · have h : some (PyData.list ((srt ns).map PyData.int)) = some d := by rw [← h]; exact (if_pos hz).symm
        cases h
        obtain ⟨v, rfl, rv⟩ := pair_one r
        cases (show Rp K O H v (.dict ds) from rv) with
        | dK a1 a2 a3 =>
          refine .inl ⟨_, _, ns, rfl, .inr ⟨_, a1⟩, a3.ints hi, hz, fun ys p pm pw hp => ?_⟩
          rw [srt_unique pw pm]
          exact q _ _ (same_upd hp) ⟨p, _, rfl, hp, upd_same, RpAll.of_ints⟩
        | dT a1 a2 a3 =>
          obtain ⟨e1, e2⟩ := a3.noInts hi
          subst e1 e2
          refine .inr ⟨O, _, _, [], rfl, .inr ⟨_, a1⟩, a3, rfl, fun zs p h3 hp => ?_⟩
          have h3 : RpAll K O H zs [] := by
            have e : sortD (keysD []) = [] := by simp [sortD, keysD]
            rw [e] at h3
            exact h3
          cases h3
          exact q _ _ (same_upd hp) ⟨p, [], rfl, hp, upd_same, .nil⟩
      · have h : none = some d := by rw [← h]; exact (if_neg hz).symm
        cases h
  · cases h
theorem j_sortKF (hc : X.calm = true) (hu : X.A.units + 65 < cLine) (hm : X.mg "sorted" = none) (hgl : Gl X "sorted") (ha : JA .w X W (e :: es) fe) (he : starEach (e :: es) X.env = (false, eval e X.env) :: starEach es X.env := by rfl) (hpl : (backTo pos (starEach es X.env)).any (·.1) = false := by rfl) :
    JE .f X W (.Call (.Name "sorted" p) (e :: es) [] pos) (eFn (rB bSortK) fe) := j_bi (cr_sortK hc hu) od_sortK hm PyProof.Rows.boot_sorted hgl ha (by decide) (by decide) he hpl
end
end MP

set_option Elab.async false
set_option linter.all false
set_option maxRecDepth 100000
set_option maxHeartbeats 1000000
/-! sets of pairs (int, (int, int)) -/
namespace MP
open PySem PySem.Spec PyProof.Rows L2
/-- the key (x, (y, z)) -/
def k3 (x y z : Int) : NestedKey := .tup [.num x, .tup [.num y, .num z]]
/-- the tuple at a is such a key -/
def T3 (h : Heap) (k : NestedKey) (a : Addr) : Prop := (∃ x y z, k = k3 x y z) ∧ NestedIs h k (.ref a)
theorem T3.keep {h h' : Heap} {k : NestedKey} {a : Addr} (x : T3 h k a) (hk : ∀ b o, h.get? b = some o → h'.get? b = some o) : T3 h' k a :=
  ⟨x.1, NestedIs.at (fun b o _ _ e _ => hk b o e) k _ x.2⟩
theorem T3.inj {h : Heap} {k k' : NestedKey} {a : Addr} (x : T3 h k a) (y : T3 h k' a) : k = k' := NestedIs.inj _ _ _ x.2 y.2
theorem T3.besideSet {h h' : Heap} {k : NestedKey} {a b : Addr} {o : Obj} {es : Array (Int × Value)} {ep : Nat} {t : SetTable} (x : T3 h k b) (ho : h.get? a = some o) (hd : o.data = .set es ep t) (hs : Heap.SameBut a h h') : T3 h' k b :=
  ⟨x.1, NestedIs.at (fun c oc vs n e q => (hs.2 c (fun z => by
    rw [z, ho] at e
    have e' := Option.some.inj e
    rw [← e', hd] at q
    cases q)).trans e) k _ x.2⟩
theorem T3.deep {h : Heap} {k : NestedKey} {a : Addr} (x : T3 h k a) : k.depth = 2 := by
  obtain ⟨⟨u, v, z, rfl⟩, _⟩ := x
  rfl
section
variable {P : Program} {w : World} {A : Around} {E : Value → Shared → Prop} {s : Shared}
/-- the hash of v goes by its value -/
def HashV (P : Program) (w : World) (n : Nat) (s : Shared) (v : Value) : Prop := ∀ (A : Around) (E : Value → Shared → Prop) (Q : Bool → Shared → Prop), Q true s → wpAny (model P w) A (hashByValue n v) Q E s
/-- v is of no class statement -/
def NoCls (P : Program) (w : World) (n : Nat) (s : Shared) (v : Value) : Prop := ∀ (A : Around) (E : Value → Shared → Prop) (Q : Bool → Shared → Prop), Q false s → wpAny (model P w) A (ofAClassStatement n v) Q E s
theorem hashV_num {n : Nat} {i : Int} {v : Value} (x : NestedIs s.heap (.num i) v) : HashV P w n s v := fun A E Q q => by
  cases x with
  | bool e => cases n <;> exact wpAny_pure q
  | int _ t => cases n <;> exact wpAny_pure q
theorem noCls_num {n : Nat} {i : Int} {v : Value} (x : NestedIs s.heap (.num i) v) : NoCls P w n s v := fun A E Q q => by
  cases x with
  | bool e => cases n <;> exact wpAny_pure q
  | int _ t => cases n <;> exact wpAny_pure q
theorem hashV_tup {n : Nat} {a : Addr} {o : Obj} {vs : Array Value} {m : Nat} (ho : s.heap.get? a = some o) (hc : o.cls = .type "tuple") (hd : o.data = .seq vs m) (hv : ∀ v ∈ vs.toList, HashV P w n s v) : HashV P w (n + 1) s (.ref a) := fun A E Q q => by
  have ht : s.TypeIs (.ref a) "tuple" := ⟨o, ho, hc⟩
  rw [hashByValue]
  refine wpAny_bind (wpAny_specialOf ht F.slot_tuple_hash.lookup ?_)
  refine wpAny_bind (m := seqItems? (.ref a)) (wpAny_seqItems ho hd ?_)
  refine wpAny_bind ?_
  show wpAny (model P w) A (forIn vs _ _) _ E s
  rw [← Array.forIn_toList]
  refine wpAny_forIn_list _ (fun l r s1 => s1 = s ∧ r.1 = none ∧ ∀ v ∈ l, HashV P w n s v) _ (fun v l r s1 z => ?_) (fun r s1 z => ?_) _ _ ⟨rfl, rfl, hv⟩
  · obtain ⟨rfl, _, z3⟩ := z
    refine wpAny_bind (z3 v List.mem_cons_self A E _ ?_)
    exact wpAny_pure ⟨rfl, rfl, fun u hu => z3 u (List.mem_cons_of_mem _ hu)⟩
  · obtain ⟨rfl, z2, _⟩ := z
    obtain ⟨r1, r2⟩ := r
    cases z2
    exact wpAny_pure q
theorem noCls_tup {n : Nat} {a : Addr} {o : Obj} {vs : Array Value} {m : Nat} (ho : s.heap.get? a = some o) (hc : o.cls = .type "tuple") (hd : o.data = .seq vs m) (hv : ∀ v ∈ vs.toList, NoCls P w n s v) : NoCls P w (n + 1) s (.ref a) := fun A E Q q => by
  have ht : s.TypeIs (.ref a) "tuple" := ⟨o, ho, hc⟩
  rw [ofAClassStatement]
  refine wpAny_bind (wpAny_typeOf ht ?_)
  refine wp_if_pos (by decide) ?_
  refine wpAny_bind (wpAny_pure ?_)
  refine wp_if_neg (by decide) ?_
  refine wpAny_bind (m := seqItems? (.ref a)) (wpAny_seqItems ho hd ?_)
  refine wpAny_bind ?_
  show wpAny (model P w) A (forIn vs _ _) _ E s
  rw [← Array.forIn_toList]
  refine wpAny_forIn_list _ (fun l r s1 => s1 = s ∧ r.1 = none ∧ ∀ v ∈ l, NoCls P w n s v) _ (fun v l r s1 z => ?_) (fun r s1 z => ?_) _ _ ⟨rfl, rfl, hv⟩
  · obtain ⟨rfl, _, z3⟩ := z
    refine wpAny_bind (z3 v List.mem_cons_self A E _ ?_)
    exact wpAny_pure ⟨rfl, rfl, fun u hu => z3 u (List.mem_cons_of_mem _ hu)⟩
  · obtain ⟨rfl, z2, _⟩ := z
    obtain ⟨r1, r2⟩ := r
    cases z2
    exact wpAny_pure q
theorem both_tup {a : Addr} {k : NestedKey} (x : T3 s.heap k a) : HashV P w 8 s (.ref a) ∧ NoCls P w 8 s (.ref a) := by
  obtain ⟨⟨u, v, z, rfl⟩, y⟩ := x
  cases y with
  | tup h1 h2 h3 h4 =>
    rename_i o vs n
    generalize hl : vs.toList = l at h4
    cases h4 with
    | cons a1 a2 =>
      cases a2 with
      | cons b1 b2 =>
        cases b2
        cases b1 with
        | tup g1 g2 g3 g4 =>
          rename_i o2 vs2 n2
          generalize hl2 : vs2.toList = l2 at g4
          cases g4 with
          | cons c1 c2 =>
            cases c2 with
            | cons d1 d2 =>
              cases d2
              refine ⟨hashV_tup h1 h2 h3 fun q hq => ?_, noCls_tup h1 h2 h3 fun q hq => ?_⟩
              · rw [hl] at hq
                rcases List.mem_cons.mp hq with rfl | hq
                · exact hashV_num a1
                · rw [List.mem_singleton] at hq
                  subst hq
                  refine hashV_tup g1 g2 g3 fun q hq => ?_
                  rw [hl2] at hq
                  rcases List.mem_cons.mp hq with rfl | hq
                  · exact hashV_num c1
                  · rw [List.mem_singleton] at hq
                    subst hq
                    exact hashV_num d1
              · rw [hl] at hq
                rcases List.mem_cons.mp hq with rfl | hq
                · exact noCls_num a1
                · rw [List.mem_singleton] at hq
                  subst hq
                  refine noCls_tup g1 g2 g3 fun q hq => ?_
                  rw [hl2] at hq
                  rcases List.mem_cons.mp hq with rfl | hq
                  · exact noCls_num c1
                  · rw [List.mem_singleton] at hq
                    subst hq
                    exact noCls_num d1
theorem T3.quiet {a : Addr} {k : NestedKey} (x : T3 s.heap k a) : QuietAt P w 8 s (.ref a) := quiet_key k _ 8 s x.2 (by rw [x.deep]; omega)
/-- a search among such keys shows nothing -/
theorem unseen3 {a : Addr} {k : NestedKey} {Q : Bool → Shared → Prop} (x : T3 s.heap k a) {ys : List Value} (hy : ∀ y ∈ ys, ∃ k' b, y = Value.ref b ∧ T3 s.heap k' b) (q : Q false s) : wpAny (model P w) A (searchCouldBeSeen (.ref a) ys) Q E s := by
  rw [searchCouldBeSeen]
  refine wpAny_bind ?_
  refine wpAny_forIn_list _ (fun l r s1 => s1 = s ∧ r.1 = none ∧ ∀ y ∈ l, ∃ k' b, y = Value.ref b ∧ T3 s.heap k' b) _ (fun v l r s1 z => ?_) (fun r s1 z => ?_) _ _ ⟨rfl, rfl, hy⟩
  · obtain ⟨rfl, _, z3⟩ := z
    obtain ⟨k', b, rfl, y⟩ := z3 v List.mem_cons_self
    have on : ∀ u ∈ l, ∃ k' b, u = Value.ref b ∧ T3 s1.heap k' b := fun u hu => z3 u (List.mem_cons_of_mem _ hu)
    dsimp only
    cases (a == b || (carriedByValue (.ref a) && carriedByValue (.ref b)))
    · refine wpAny_bind (x.quiet A E _ ?_)
      refine wpAny_bind (y.quiet A E _ ?_)
      refine wpAny_bind ((both_tup x).2 A E _ ?_)
      refine wpAny_bind ((both_tup y).2 A E _ ?_)
      exact wpAny_pure ⟨rfl, rfl, on⟩
    · exact wpAny_pure ⟨rfl, rfl, on⟩
  · obtain ⟨rfl, z2, _⟩ := z
    obtain ⟨r1, r2⟩ := r
    cases z2
    exact wpAny_pure q
/-- the entries of a set -/
def ent3 (w : World) (L : List (Addr × NestedKey)) : List (Int × Value) := L.map fun p => (p.2.hash w, Value.ref p.1)
/-- the hashes of a set -/
def hsh3 (w : World) (L : List (Addr × NestedKey)) : List Int := L.map fun p => p.2.hash w
theorem hsh3_get {w : World} {L : List (Addr × NestedKey)} {i : Nat} {p : Addr × NestedKey} (h : L[i]? = some p) : (hsh3 w L)[i]? = some (p.2.hash w) := by
  rw [hsh3, List.getElem?_map, h]
  rfl
/-- the set at a has the keys of L -/
structure NSet (w : World) (h : Heap) (a : Addr) (L : List (Addr × NestedKey)) (es : Array (Int × Value)) (ep : Nat) (t : SetTable) : Prop where
  obj : ∃ o, h.get? a = some o ∧ o.ExactSet ∧ o.data = .set es ep t
  ents : es.toList = ent3 w L
  tab : TabOk t (hsh3 w L)
  nod : (L.map (·.2)).Nodup
  keys : ∀ p ∈ L, T3 h p.2 p.1
  pl : t.plain = true
  ld : w.params.followText "set-order" = true ∨ t.led = true
  rm : L.length * 5 < t.mask * 3
  few : L.length < 64
variable {a : Addr} {L : List (Addr × NestedKey)} {es : Array (Int × Value)} {ep : Nat} {t : SetTable}
theorem ent3_size (h : es.toList = ent3 w L) : es.size = L.length := by
  have q := congrArg List.length h
  simpa [ent3] using q
theorem NSet.fits {h : Heap} (R : NSet w h a L es ep t) : t.fits es.size = true := by
  have h1 : t.place.size = L.length := by simpa [hsh3] using R.tab.sz
  have h2 := ent3_size R.ents
  have h3 := R.rm
  simp only [SetTable.fits, SetTable.fill, R.tab.dm, Bool.and_eq_true, beq_iff_eq, decide_eq_true_eq]
  exact ⟨by omega, by simp only [Array.size_empty] at *; omega⟩
theorem ent3_at (h : es.toList = ent3 w L) {i : Nat} {p : Addr × NestedKey} (e : L[i]? = some p) : es[i]? = some (p.2.hash w, Value.ref p.1) := by
  have q : es.toList[i]? = _ := congrArg (·[i]?) h
  rw [Array.getElem?_toList, ent3, List.getElem?_map, e] at q
  exact q
theorem nth_dummy (m : Nat) : ∀ (n : Nat) (p : SetTable.Probe), p.dummy = none → (nth m p n).dummy = none
  | 0, _, h => h
  | n + 1, p, h => nth_dummy m n (adv m p) (by unfold adv; split <;> exact h)
theorem search3 (R : NSet w s.heap a L es ep t) {x : Addr} {k : NestedKey} (hx : T3 s.heap k x) (hu : A.units + 8 < cLine) {st : SetTable.Probe} (hst : st = runAt t.mask (SetTable.bits (k.hash w) % (t.mask + 1)) (SetTable.bits (k.hash w)))
    {K : Nat} (hKf : K < 10 * SetTable.turns t.mask) (hK : (nth t.mask st K).j ∉ t.place.toList) (hKb : ∀ c, c < K → (nth t.mask st c).j ∈ t.place.toList) {Q : SetFound → Shared → Prop}
    (yes : k ∈ L.map (·.2) → Q (.there none) s) (no : k ∉ L.map (·.2) → Q (.free (nth t.mask st K).j false) s) :
    ∀ (f c : Nat) (stand : Option SetTable.Probe), stand.getD (t.probeStart (k.hash w)) = nth t.mask st c → c ≤ K → K < f + c →
      (∀ (c' i : Nat) p, c' < c → t.place.toList[i]? = some (nth t.mask st c').j → L[i]? = some p → p.2 ≠ k) →
      wpAny (model P w) A (setSearchFrom a (.ref x) (k.hash w) true f stand) Q E s := by
  obtain ⟨o, ho, _, hd⟩ := R.obj
  have hlen : t.place.size = L.length := by simpa [hsh3] using R.tab.sz
  have gw : ¬ t.gaveWay = true := by
    unfold SetTable.gaveWay
    rw [mask_odd R.tab.mok]
    decide
  have sd : st.dummy = none := by rw [hst]; rfl
  have atL : ∀ {i j : Nat}, t.place.toList[i]? = some j → ∃ p, L[i]? = some p := fun {i j} e => by
    have h1 := (List.getElem?_eq_some_iff.mp e).1
    rw [Array.length_toList, hlen] at h1
    exact ⟨L[i], List.getElem?_eq_getElem h1⟩
  have hAt : ∀ {i : Nat} {p : Addr × NestedKey}, L[i]? = some p → (es[i]?.map (·.1)).getD 0 = p.2.hash w := fun {i p} e => by rw [ent3_at R.ents e]; rfl
  intro f
  induction f with
  | zero => intro c _ _ h1 h2; omega
  | succ f ih =>
    intro c stand hs hc hf inv
    have shift : ∀ q, nth t.mask (nth t.mask st c) q = nth t.mask st (c + q) := fun q => (nth_add t.mask c st q).symm
    have spec := go_spec t R.tab.ris R.tab.dm (fun i => (es[i]?.map (·.1)).getD 0) (k.hash w) (10 * SetTable.turns t.mask) (K - c) (nth t.mask st c) (nth_dummy _ c _ sd) (by omega)
      (fun q hq => by rw [shift]; exact hKb _ (by omega)) (by rw [shift, show c + (K - c) = K by omega]; exact hK)
    rw [setSearchFrom_succ]
    refine wpAny_bind (wpAny_setState_of ho hd R.fits ?_)
    refine wp_if_neg gw ?_
    have open_ : ∀ m, SetTable.probe.go t (fun i => (es[i]?.map (·.1)).getD 0) (k.hash w) (10 * SetTable.turns t.mask) (nth t.mask st c) = some m → t.probe (fun i => (es[i]?.map (·.1)).getD 0) (k.hash w) (stand.getD (t.probeStart (k.hash w))) = some m := fun m e => by
      rw [hs]; exact e
    rcases spec with ⟨q, i, hq, hi, hh, before, e⟩ | ⟨before, e⟩
    · rw [open_ _ e]
      rw [shift] at hi
      obtain ⟨p, hp⟩ := atL hi
      have hy := R.keys p (List.mem_of_getElem? hp)
      have goal : wpAny (model P w) A (searchRest a (.ref x) (k.hash w) true f es t (nth t.mask (nth t.mask st c) q).j i (nth t.mask (nth t.mask st c) (q + 1))) Q E s := by
        rw [searchRest, ent3_at R.ents hp]
        refine wpAny_bind (wpAny_holding ((nestedKind P w).eqBool (x := p.2) (y := k) hu ⟨hy.2, by rw [hy.deep]; omega⟩ ⟨hx.2, by rw [hx.deep]; omega⟩ ?_))
        refine wpAny_bind (wpAny_setState_of ho hd R.fits ?_)
        by_cases ek : p.2 = k
        · refine wp_if_pos (by rw [decide_eq_true ek]; rfl) ?_
          exact wpAny_pure (yes (List.mem_map.mpr ⟨p, List.mem_of_getElem? hp, ek⟩))
        · refine wp_if_neg (by rw [decide_eq_false ek]; decide) ?_
          have live : t.slot (nth t.mask (nth t.mask st c) q).j = .live i := slot_live R.tab.ris (by rw [shift]; exact hi)
          rw [sameMem]
          simp only [if_true, live, ent3_at R.ents hp]
          refine wpAny_bind (wpAny_isSame_ref_self (wpAny_bind (wpAny_pure ?_)))
          simp only [if_true]
          refine wp_if_neg (by rw [decide_eq_false ek]; decide) ?_
          refine ih (c + (q + 1)) _ (by rw [shift]; rfl) (by omega) (by omega) fun c' i' p' hc' hi' hp' => ?_
          by_cases l1 : c' < c
          · exact inv c' i' p' l1 hi' hp'
          · by_cases l2 : c' = c + q
            · subst l2
              have live' := slot_live R.tab.ris hi'
              rw [← shift, live] at live'
              injection live' with ei
              rw [← ei, hp] at hp'
              rw [← Option.some.inj hp']
              exact ek
            · intro ek'
              refine before (c' - c) i' (by omega) (by rw [shift, show c + (c' - c) = c' by omega]; exact hi') ?_
              show (es[i']?.map (·.1)).getD 0 = _
              rw [hAt hp', ek']
      cases hl : t.led
      · refine wp_if_pos rfl ?_
        refine wpAny_bind (unseen3 hx (fun y hy => ?_) ?_)
        · obtain ⟨en, he, rfl⟩ := List.mem_map.mp hy
          have he2 : en ∈ es.toList := by
            have h2 : en ∈ es ∧ en.1 = k.hash w := by simpa using he
            simpa using h2.1
          rw [R.ents] at he2
          obtain ⟨p2, hp2, rfl⟩ := List.mem_map.mp he2
          exact ⟨p2.2, p2.1, rfl, R.keys p2 hp2⟩
        · exact wp_if_neg (by decide) goal
      · exact wp_if_neg (by decide) goal
    · rw [open_ _ e]
      rw [shift, show c + (K - c) = K by omega]
      refine wpAny_pure (no fun hm => ?_)
      obtain ⟨p, hp, ek⟩ := List.mem_map.mp hm
      obtain ⟨i, hil, ei⟩ := List.getElem_of_mem hp
      have hi : L[i]? = some p := by rw [List.getElem?_eq_getElem hil, ei]
      have hil2 : i < t.place.toList.length := by rw [Array.length_toList, hlen]; exact hil
      have hj := List.getElem?_eq_getElem hil2
      have hw : way t.mask (k.hash w) K ∉ t.place.toList := by rw [way, ← hst]; exact hK
      obtain ⟨c', h1, h2⟩ := R.tab.before hw (by rw [hsh3_get hi, ek]) hj
      rw [way, ← hst] at h2
      rw [← h2] at hj
      by_cases l1 : c' < c
      · exact inv c' i p l1 hj hi ek
      · refine before (c' - c) i (by omega) (by rw [shift, show c + (c' - c) = c' by omega]; exact hj) ?_
        show (es[i]?.map (·.1)).getD 0 = _
        rw [hAt hi, ek]
theorem find3 (R : NSet w s.heap a L es ep t) {x : Addr} {k : NestedKey} (hx : T3 s.heap k x) (hu : A.units + 8 < cLine) {Q : SetFound → Shared → Prop} (yes : k ∈ L.map (·.2) → Q (.there none) s)
    (no : ∀ K, k ∉ L.map (·.2) → way t.mask (k.hash w) K ∉ t.place.toList → (∀ c, c < K → way t.mask (k.hash w) c ∈ t.place.toList) → Q (.free (way t.mask (k.hash w) K) false) s) :
    wpAny (model P w) A (setSearch a (.ref x) (k.hash w) true) Q E s := by
  have rm := R.rm
  obtain ⟨K, k1, k2, k3⟩ := R.tab.first (by simp only [hsh3, List.length_map]; omega) (k.hash w)
  have small : 10 * SetTable.turns t.mask < 100000 := by
    unfold SetTable.turns
    rcases R.tab.mok with e | e | e <;> rw [e] <;> decide
  exact search3 R hx hu rfl k1 k2 k3 yes (fun n => no K n k2 k3) 100000 0 none rfl (Nat.zero_le _) (by omega) fun c' _ _ h => absurd h (Nat.not_lt_zero _)
/-- the entries in another order -/
theorem order3 (he : es.toList = ent3 w L) : ∀ l : List Nat, (∀ i ∈ l, i < L.length) → l.filterMap (fun i => es[i]?) = ent3 w (l.filterMap fun i => L[i]?) ∧ (l.map fun i => (es.map (·.1)).getD i 0) = hsh3 w (l.filterMap fun i => L[i]?)
  | [], _ => ⟨rfl, rfl⟩
  | i :: l, h => by
    have hi := h i List.mem_cons_self
    have e1 : L[i]? = some L[i] := List.getElem?_eq_getElem hi
    obtain ⟨h1, h2⟩ := order3 he l fun j hj => h j (List.mem_cons_of_mem _ hj)
    have e2 := ent3_at he e1
    constructor
    · simp only [List.filterMap_cons, e1, e2, h1, ent3, List.map_cons]
    · simp only [List.filterMap_cons, e1, List.map_cons, h2, hsh3, List.cons.injEq, and_true]
      simp [Array.getD_eq_getD_getElem?, e2]
theorem range_pick {α : Type} (l : List α) : (List.range l.length).filterMap (fun i => l[i]?) = l := by
  induction l with
  | nil => rfl
  | cons x l ih =>
    rw [List.length_cons, List.range_succ_eq_map]
    simp only [List.filterMap_cons, List.getElem?_cons_zero, List.filterMap_map]
    have e : ((fun i => (x :: l)[i]?) ∘ Nat.succ) = fun i => l[i]? := by
      funext i
      simp
    rw [e, ih]
/-- the table is laid anew -/
theorem relay3 {o : Obj} (ho : s.heap.get? a = some o) (hx : o.ExactSet) (hd : o.data = .set es ep t) (he : es.toList = ent3 w L) (hf : t.fits es.size = true) (nod : (L.map (·.2)).Nodup) (keys : ∀ p ∈ L, T3 s.heap p.2 p.1)
    (pl : t.plain = true) (ld : w.params.followText "set-order" = true ∨ t.led = true) (few : L.length < 64) {n M : Nat} (hM : SetTable.sizeAbove n = M + 1) (mok : MaskOk M) (rm : L.length * 5 < M * 3) {Q : Unit → Shared → Prop}
    (q : ∀ h' L' es' ep' t', Heap.SameBut a s.heap h' → NSet w h' a L' es' ep' t' → L'.Perm L → Q () { s with heap := h' }) : wpAny (model P w) A (setRelay a n) Q E s := by
  have sz := ent3_size he
  have m127 : M ≤ 127 := by rcases mok with e | e | e <;> omega
  obtain ⟨t', order, e1, pm, tab, em, el, ep', _⟩ := relaid_ok t (hs := es.map (·.1)) (wanted := n) (by rw [hM]; rfl) mok (by rw [Array.size_map]; omega)
  rw [Array.size_map, sz] at pm
  obtain ⟨o1, o2⟩ := order3 he order.toList fun i hi => List.mem_range.mp (pm.mem_iff.mp hi)
  have pL : (order.toList.filterMap fun i => L[i]?).Perm L := by
    have := pm.filterMap (fun i => L[i]?)
    rw [range_pick] at this
    exact this
  rw [o2] at tab
  generalize hL' : (order.toList.filterMap fun i => L[i]?) = L' at o1 o2 pL tab
  have oe : (order.filterMap (es[·]?)).toList = ent3 w L' := by
    rw [Array.toList_filterMap]
    exact o1
  generalize hes' : order.filterMap (es[·]?) = es' at oe
  have sz' : es'.size = es.size := by rw [ent3_size oe, pL.length_eq, sz]
  rw [setRelay_eq]
  refine wpAny_bind (wpAny_setState_of ho hd hf ?_)
  refine wp_if_neg (by rw [hM, sizeLine_eq]; omega) ?_
  simp only [e1, hes']
  refine wpAny_bind ?_
  refine wp_if_neg (by rw [sz']; simp) ?_
  refine wpAny_pure ?_
  refine wpAny_storeSet_of ho hd ?_ (by rw [sz', sz, sizeLine_eq]; omega)
  have same : Heap.SameBut a s.heap (s.heap.update a (Obj.putSet es' t')) := Heap.SameBut.update ..
  refine q _ L' es' (ep + 1) t' same ?_ pL
  constructor
  · exact ⟨_, store_at ho hd, ⟨hx.1, hx.2.1, hx.2.2⟩, rfl⟩
  · exact oe
  · exact tab
  · exact (pL.map (·.2)).nodup_iff.mpr nod
  · exact fun p hp => (keys p (pL.mem_iff.mp hp)).besideSet ho hd same
  · rw [ep']; exact pl
  · rw [el]; exact ld
  · rw [pL.length_eq, em]; exact rm
  · rw [pL.length_eq]; exact few
/-- a key is added -/
theorem add3 (R : NSet w s.heap a L es ep t) {x : Addr} {k : NestedKey} (hx : T3 s.heap k x) (hu : A.units + 8 < cLine) (hn : L.length + 1 < 64) {Q : Bool → Shared → Prop}
    (q : ∀ b h' L' es' ep' t', Heap.SameBut a s.heap h' → NSet w h' a L' es' ep' t' → (k ∈ L.map (·.2) ∧ L' = L ∨ k ∉ L.map (·.2) ∧ L'.Perm ((x, k) :: L)) → Q b { s with heap := h' }) :
    wpAny (model P w) A (setAddHashed a (.ref x) (k.hash w)) Q E s := by
  obtain ⟨o, ho, hex, hd⟩ := R.obj
  have sz := ent3_size R.ents
  have rm := R.rm
  unfold setAddHashed
  refine wpAny_holding ?_
  rw [show (100000 : Nat) = 99999 + 1 from rfl, setAddHashedIn_succ]
  refine wpAny_bind (wpAny_setState_of ho hd R.fits ?_)
  refine wp_if_neg (by simp [byScan, Value.scannable]) ?_
  refine wpAny_bind (find3 R hx hu (fun hm => ?_) fun K hm hK hb => ?_)
  · exact wpAny_pure (q false s.heap L es ep t (Heap.SameBut.refl a s.heap) R (.inl ⟨hm, rfl⟩))
  refine wpAny_bind (wpAny_setState_of ho hd R.fits ?_)
  obtain ⟨z1, z2, z3, z4, z5, z6, _, _, z9⟩ := R.tab.put hK hb
  generalize way t.mask (k.hash w) K = j at hK hb z1 z2 z3 z4 z5 z6 z9 ⊢
  have hpl : (t.put j).1.plain = true := z6.trans R.pl
  have hfill : (t.put j).1.fill = L.length + 1 := by rw [z9]; simp [hsh3]
  dsimp only
  rw [z1]
  generalize (t.put j).1 = t1 at z3 z4 z5 hpl hfill ⊢
  generalize SetTable.below t.place j = p at z2 z3 ⊢
  have hins : (SetTable.insertAt es p (k.hash w, Value.ref x)).toList = ent3 w (L.take p ++ (x, k) :: L.drop p) := by
    rw [SetTable.toList_insertAt, R.ents]
    simp only [ent3, List.map_append, List.map_cons, List.map_take, List.map_drop]
  have htab : hsh3 w (L.take p ++ (x, k) :: L.drop p) = (hsh3 w L).take p ++ k.hash w :: (hsh3 w L).drop p := by
    simp only [hsh3, List.map_append, List.map_cons, List.map_take, List.map_drop]
  rw [← htab] at z3
  have pm : (L.take p ++ (x, k) :: L.drop p).Perm ((x, k) :: L) := put_perm L p (x, k)
  generalize SetTable.insertAt es p (k.hash w, Value.ref x) = es1 at hins ⊢
  generalize L.take p ++ (x, k) :: L.drop p = L1 at hins z3 pm
  have len1 : L1.length = L.length + 1 := by rw [pm.length_eq]; rfl
  have sz1 : es1.size = L.length + 1 := by rw [ent3_size hins, len1]
  have nod1 : (L1.map (·.2)).Nodup := (pm.map (·.2)).nodup_iff.mpr (List.nodup_cons.mpr ⟨hm, R.nod⟩)
  have fits1 : t1.mask = t.mask → t1.fits es1.size = true := fun e => by
    have h1 : t1.place.size = L1.length := by simpa [hsh3] using z3.sz
    simp only [SetTable.fits, hfill, Bool.and_eq_true, beq_iff_eq, decide_eq_true_eq]
    refine ⟨by omega, ?_⟩
    rw [e]
    rcases R.tab.mok with c | c | c <;> omega
  refine wp_if_pos hpl (wpAny_bind ((both_tup hx).1 A E _ ?_))
  simp only [if_true]
  refine wpAny_bind (wpAny_storeSet_of ho hd ?_ (by rw [sz1, sizeLine_eq]; omega))
  have same : Heap.SameBut a s.heap (s.heap.update a (Obj.putSet es1 t1)) := Heap.SameBut.update ..
  have ho1 := store_at (es' := es1) (t' := t1) ho hd
  generalize s.heap.update a (Obj.putSet es1 t1) = h1 at same ho1 ⊢
  have keys1 : ∀ p ∈ L1, T3 h1 p.2 p.1 := fun p hp => by
    rcases List.mem_cons.mp (pm.mem_iff.mp hp) with rfl | hp
    · exact hx.besideSet ho hd same
    · exact (R.keys p hp).besideSet ho hd same
  have ld1 : w.params.followText "set-order" = true ∨ t1.led = true := by rw [z5]; exact R.ld
  by_cases full : (L.length + 1) * 5 < t.mask * 3
  · refine wp_if_neg (by simp only [SetTable.tooFull, hfill, z4]; simp; omega) ?_
    exact wpAny_pure (q true h1 L1 es1 (ep + 1) t1 same ⟨⟨_, ho1, ⟨hex.1, hex.2.1, hex.2.2⟩, rfl⟩, hins, z3, nod1, keys1, hpl, ld1, by rw [len1, z4]; exact full, by omega⟩ (.inr ⟨hm, pm⟩))
  · refine wp_if_pos (by simp only [SetTable.tooFull, hfill, z4]; simp; omega) ?_
    refine wpAny_bind ?_
    rw [sz]
    have grow : ∃ M, SetTable.sizeAbove (SetTable.grown (L.length + 1)) = M + 1 ∧ MaskOk M ∧ (L.length + 1) * 5 < M * 3 := by
      rcases R.tab.mok with e | e | e
      · rw [e] at rm full
        have : L.length = 4 := by omega
        exact ⟨31, by rw [this]; exact size_20, .inr (.inl rfl), by omega⟩
      · rw [e] at rm full
        have : L.length = 18 := by omega
        exact ⟨127, by rw [this]; exact size_76, .inr (.inr rfl), by omega⟩
      · rw [e] at full
        omega
    obtain ⟨M, m1, m2, m3⟩ := grow
    refine relay3 (s := { s with heap := h1 }) ho1 ⟨hex.1, hex.2.1, hex.2.2⟩ rfl hins (fits1 z4) nod1 keys1 hpl ld1 (by omega) m1 m2 (by rw [len1]; exact m3) fun h2 L2 es2 ep2 t2 same2 R2 pm2 => ?_
    exact wpAny_pure (q true h2 L2 es2 ep2 t2 (same.trans same2) R2 (.inr ⟨hm, pm2.trans pm⟩))
/-- what the first i of the keys ks leave in a set -/
def Has3 (ks : List (Addr × NestedKey)) (i : Nat) (L : List (Addr × NestedKey)) : Prop := (∀ p ∈ L, p ∈ ks.take i) ∧ (∀ p ∈ ks.take i, p.2 ∈ L.map (·.2)) ∧ L.length ≤ i
theorem Has3.next {ks L L' : List (Addr × NestedKey)} {i : Nat} {p : Addr × NestedKey} (g : Has3 ks i L) (h : ks[i]? = some p) (c : p.2 ∈ L.map (·.2) ∧ L' = L ∨ p.2 ∉ L.map (·.2) ∧ L'.Perm (p :: L)) : Has3 ks (i + 1) L' := by
  obtain ⟨g1, g2, g3⟩ := g
  have e := take_next h
  rcases c with ⟨c, rfl⟩ | ⟨_, pm⟩
  · refine ⟨fun q hq => by rw [e]; exact List.mem_append_left _ (g1 q hq), fun q hq => ?_, by omega⟩
    rw [e, List.mem_append, List.mem_singleton] at hq
    rcases hq with hq | rfl
    · exact g2 q hq
    · exact c
  · refine ⟨fun q hq => ?_, fun q hq => (pm.map (·.2)).mem_iff.mpr ?_, by rw [pm.length_eq, List.length_cons]; omega⟩
    · rw [e, List.mem_append, List.mem_singleton]
      rcases List.mem_cons.mp (pm.mem_iff.mp hq) with z | z
      · exact .inr z
      · exact .inl (g1 q z)
    · rw [e, List.mem_append, List.mem_singleton] at hq
      rcases hq with hq | rfl
      · exact List.mem_cons_of_mem _ (g2 q hq)
      · exact List.mem_cons_self
theorem NSet.moved {h h' : Heap} (R : NSet w h a L es ep t) (ha : ∀ o, h.get? a = some o → h'.get? a = some o) (hk : ∀ p ∈ L, T3 h' p.2 p.1) : NSet w h' a L es ep t := by
  obtain ⟨o, ho, z⟩ := R.obj
  exact { R with obj := ⟨o, ha o ho, z⟩, keys := hk }
/-- the object of a set just made -/
abbrev newSet (w : World) : Obj := { cls := .type "set", dict := none, data := .set #[] 0 (.fresh 0 0 (!w.params.followText "set-order")) }
theorem nset_new {h : Heap} (ho : h.get? a = some (newSet w)) : NSet w h a [] #[] 0 (.fresh 0 0 (!w.params.followText "set-order")) := by
  constructor
  · exact ⟨_, ho, ⟨rfl, rfl, rfl⟩, rfl⟩
  · rfl
  · exact ⟨.nil, rfl, rfl, .inl rfl, fun x hx => (nomatch hx), fun i h j hi => (by simp [hsh3] at hi)⟩
  · exact .nil
  · exact fun p hp => nomatch hp
  · rfl
  · cases hb : w.params.followText "set-order"
    · exact .inr rfl
    · exact .inl rfl
  · exact (by decide : 0 * 5 < 7 * 3)
  · exact (by decide : 0 < 64)
/-- the loop of set.update -/
theorem fill3 {I : Addr} {fp wr : List Addr} {G : Array GenState → Array GenState → Prop} {Pv : Nat → Value → Prop} {St : Nat → Shared → Prop} {R : Result → Shared → Prop} (ks : List (Addr × NestedKey))
    (W : WalksS P w A.in1 I fp wr G ks.length Pv St) (S : Addr) (hS : S ∉ fp) (hfew : ks.length < 64) (hv : ∀ i v, Pv i v → ∃ p, ks[i]? = some p ∧ v = .ref p.1) (h0 : Heap) (hk : ∀ p ∈ ks, T3 h0 p.2 p.1)
    (hS0 : h0.get? S = none) (hw0 : ∀ b ∈ wr, h0.get? b = none) (hu : A.in1.units + 8 < cLine) : ∀ (m i : Nat) (s : Shared), i + m = ks.length → St i s → (∀ b o, h0.get? b = some o → s.heap.get? b = some o) →
      (∃ L es ep t, NSet w s.heap S L es ep t ∧ Has3 ks i L) →
      (∀ s' L es ep t, Moved (S :: wr) G s s' → NSet w s'.heap S L es ep t → Has3 ks ks.length L → (∀ b o, h0.get? b = some o → s'.heap.get? b = some o) → R (.ok (.ret .none)) s') →
      codeAny (model P w) A (.builtin "set.update.loop" ⟨[.ref S, .ref I], []⟩) R s := by
  have hSw : S ∉ wr := fun z => hS (W.sub _ z)
  have kept : ∀ {s s' : Shared}, Moved wr G s s' → (∀ b o, h0.get? b = some o → s.heap.get? b = some o) → ∀ b o, h0.get? b = some o → s'.heap.get? b = some o := fun mv kp b o e =>
    mv.heap b o (fun z => by rw [hw0 b z] at e; cases e) (kp b o e)
  intro m
  induction m with
  | zero =>
    rintro i s hm hst kp ⟨L, es, ep, t, hN, g⟩ hR
    obtain rfl : i = ks.length := by omega
    refine codeAny_builtin F.entry_set_update_loop ?_
    rw [Around.under_plainId F.plain_set_update_loop _]
    refine wpAny_bind (m := pyNext (.ref I)) (W.done s _ _ hst fun s' mv => ?_)
    have kp' := kept mv kp
    refine wpAny_pure (hR s' L es ep t (mv.mono fun b hb => List.mem_cons_of_mem _ hb) (hN.moved (fun o e => mv.heap S o hSw e) fun p hp => (hk p (List.mem_of_mem_take (g.1 p hp))).keep kp') g kp')
  | succ m ih =>
    rintro i s hm hst kp ⟨L, es, ep, t, hN, g⟩ hR
    refine codeAny_builtin F.entry_set_update_loop ?_
    rw [Around.under_plainId F.plain_set_update_loop _]
    refine wpAny_bind (m := pyNext (.ref I)) (W.item i s _ _ (by omega) hst fun v s' hP hst' mv => ?_)
    obtain ⟨p, hp, rfl⟩ := hv i v hP
    have kp' := kept mv kp
    have hx : T3 s'.heap p.2 p.1 := (hk p (List.mem_of_getElem? hp)).keep kp'
    have hN' : NSet w s'.heap S L es ep t := hN.moved (fun o e => mv.heap S o hSw e) fun q hq => (hk q (List.mem_of_mem_take (g.1 q hq))).keep kp'
    refine wpAny_bind (m := holding [Value.ref p.1] (setAdd S (.ref p.1))) (wpAny_holding ?_)
    unfold setAdd
    refine wpAny_holding ?_
    refine wpAny_bind ((nestedKind P w).pyHash (k := p.2) hu ⟨hx.2, by rw [hx.deep]; omega⟩ ?_)
    have gl := g.2.2
    refine add3 (s := { s' with toks := s'.toks + p.2.draws }) hN' hx hu (by omega) fun b h' L' es' ep' t' same hN2 c => ?_
    have kp2 : ∀ b o, h0.get? b = some o → h'.get? b = some o := fun b o e => (same.2 b (fun z => by rw [z, hS0] at e; cases e)).trans (kp' b o e)
    refine wpAny_pure ⟨plainId_quiet F.plain_set_update_loop _, ih (i + 1) _ (by omega) (W.frame _ s' _ _ hst' (Nat.le_add_right _ _) fun b hb o e => ?_) kp2 ⟨L', es', ep', t', hN2, g.next hp c⟩ fun s2 L2 es2 ep2 t2 mv2 hN3 g3 kp3 => ?_⟩
    · exact (same.2 b (fun z => hS (z ▸ hb))).trans e
    · refine hR s2 L2 es2 ep2 t2 (Moved.trans W.gtrans ((mv.mono fun b hb => List.mem_cons_of_mem _ hb).then_heap (Nat.le_add_right _ _) fun b o hb e => ?_) mv2) hN3 g3 kp3
      exact (same.2 b (fun z => hb (z ▸ List.mem_cons_self))).trans e
set_option maxHeartbeats 3200000 in
/-- set(xs), xs a list of such keys -/
theorem make3 {l : Addr} {items : Array Value} (ks : List (Addr × NestedKey)) {Q : Value → Shared → Prop} (hh : A.handled = none) (hl : s.heap.IsList l items) (hi : items.toList = ks.map fun p => Value.ref p.1) (hk : ∀ p ∈ ks, T3 s.heap p.2 p.1)
    (hfew : ks.length < 64) (hu : A.units + 11 < cLine) (q : ∀ (h' : Heap) (tk : Nat) L es ep t, NSet w h' s.heap.objs.size L es ep t → Has3 ks ks.length L → (∀ b o, s.heap.get? b = some o → h'.get? b = some o) → Q (.ref s.heap.objs.size) { s with heap := h', toks := tk }) :
    wpAny (model P w) A (call (.type "set") [.ref l]) Q E s := by
  have isz : items.size = ks.length := by simpa using congrArg List.length hi
  obtain ⟨cc, tl, mro⟩ := F.called_set.mro
  have made := F.called_set.made
  have sub := F.called_set.sub
  have notType := F.called_set.notType
  have can := F.called_set.canCreate
  have tc := F.typeCall_set_1 (.ref l)
  have init := F.called_set.init.lookup
  have bind := F.called_set.init.bind (.ref s.heap.objs.size)
  have hS : (s.heap.push (newSet w)).get? s.heap.objs.size = some (newSet w) := Heap.get?_push_size _ rfl
  have typ : Shared.TypeIs { s with heap := s.heap.push (newSet w) } (.ref s.heap.objs.size) "set" := ⟨_, hS, rfl⟩
  refine wpAny_call (codeAny_of_tree (show wpAny _ _ (callAny (.type "set") _) _ _ _ from wpAny_pure ⟨Code.quiet_builtin _ (by decide +kernel), codeAny_builtin F.entry_type_call ?_⟩))
  rw [Around.under_plain (weight_type_call_type "set" [.ref l] []) rfl]
  repeat (any_goals (first | assumption | wp_step))
  refine codeAny_mono (code_set_led1 (.ref l) (E := E) (Q₁ := fun v s1 => v = .ref s.heap.objs.size ∧ s1 = { s with heap := s.heap.push (newSet w) }) ⟨rfl, rfl⟩) fun r s1 hr => ?_
  rcases r with e | fl
  · exact hr
  · cases fl with
    | next => exact hr.elim
    | brk => exact hr.elim
    | cont => exact hr.elim
    | ret v =>
      obtain ⟨rfl, rfl⟩ := hr
      repeat (any_goals (first | assumption | wp_step))
      refine codeAny_mono (codeAny_call_builtin (R := wants (fun r s2 => r = .none ∧ ∃ h' tk L es ep t, s2 = { s with heap := h', toks := tk } ∧ NSet w h' s.heap.objs.size L es ep t ∧ Has3 ks ks.length L ∧ (∀ b o, s.heap.get? b = some o → h'.get? b = some o)) E)
        F.called_set.init.plain F.entry_set_init (check_set_init_1 typ ?_)) fun r2 s2 hr2 => ?_
      · obtain ⟨⟨oc, od, dt, osl⟩, hol, hcl, nl, hdl⟩ := hl
        dsimp only at hcl hdl
        subst hcl hdl
        have hol' : (s.heap.push (newSet w)).get? l = some { cls := .type "list", dict := od, data := .seq items nl, slots := osl } := Heap.get?_push_of_some _ hol
        have sl1 := F.sub_list_set
        have sl2 := F.sub_list_frozenset
        have nd : (Value.type "list" == Value.type "dict") = false := by decide
        have isl : (s.heap.push (newSet w)).IsList l items := ⟨_, hol', rfl, nl, rfl⟩
        have lts : l < s.heap.objs.size := Heap.lt_size hol
        have zp : (s.heap.push (newSet w)).objs.size = s.heap.objs.size + 1 := Heap.size_push ..
        unfold Builtin.«set.__init__» noKeywords Builtin.Frozenset.updateFrom
        generalize hpi : pyIter = PI
        wp_walk
        subst hpi
        refine wpAny_pyIter_list isl (wpAny_bind (wpAny_runValue ?_))
        have out : ∀ b, s.heap.objs.size ≤ b → s.heap.get? b = none := fun b hb => by
          cases e : s.heap.get? b with
          | none => rfl
          | some o => exact (Nat.not_lt.mpr hb (Heap.lt_size e)).elim
        have W := (Walks.list (prog := P) (w := w) (A := A.in1.in1.in1) (by simp [hh]) (s.heap.push (newSet w)).objs.size l (fun z => by rw [z, zp] at lts; exact Nat.not_succ_lt_self lts) items).toS
        rw [isz] at W
        refine fill3 ks W s.heap.objs.size (by rw [zp]; simp only [List.mem_cons, List.not_mem_nil, or_false, not_or]; exact ⟨Nat.ne_of_lt (Nat.lt_succ_self _), Nat.ne_of_gt lts⟩) hfew (fun i v hv => ?_) s.heap hk (out _ (Nat.le_refl _)) (fun b hb => out b (by rw [List.mem_singleton.mp hb, zp]; omega)) (by simp only [Around.in1_units]; omega) ks.length 0 _ (by omega)
          ⟨⟨_, Heap.get?_push_size _ rfl, rfl, rfl⟩, isl.push _⟩ (fun b o e => Heap.get?_push_of_some _ (Heap.get?_push_of_some _ e)) ⟨[], #[], 0, _, nset_new (Heap.get?_push_of_some _ hS), fun p hp => (nomatch hp), fun p hp => (by simp at hp), Nat.le_refl _⟩ ?_
        · have e : items.toList[i]? = some v := by rw [Array.getElem?_toList]; exact hv
          rw [hi, List.getElem?_map] at e
          cases hp : ks[i]? with
          | none => rw [hp] at e; cases e
          | some p =>
            rw [hp] at e
            exact ⟨p, rfl, (Option.some.inj e).symm⟩
        · rintro ⟨h', g2, d', tk', os'⟩ L es ep t mv hN g kp
          have eg : g2 = s.gens := mv.gens
          have ed : d' = s.drawn := mv.drawn
          have eo : os' = s.os := mv.os
          subst eg ed eo
          refine wpAny_pure ?_
          exact wpAny_pure ⟨rfl, h', tk', L, es, ep, t, rfl, hN, g, kp⟩
      · rcases r2 with e | fl2
        · exact hr2
        · cases fl2 with
          | next => exact hr2.elim
          | brk => exact hr2.elim
          | cont => exact hr2.elim
          | ret v =>
            obtain ⟨rfl, h', tk, L, es, ep, t, rfl, hN, g, kp⟩ := hr2
            repeat (any_goals (first | assumption | wp_step))
            exact q _ _ _ _ _ _ hN g kp
end
end MP

set_option Elab.async false
set_option linter.all false
set_option maxRecDepth 100000
set_option maxHeartbeats 1000000
/-! sorted(set(xs)), xs a list of pairs (int, (int, int)) of small ints -/
namespace MP
open PySem PySem.Spec PyProof.Rows L2
def unc3 (c : Int) : MP.D := .tuple [.int (c / 4096), .tuple [.int (c / 64 % 64), .int (c % 64)]]
def key3 (c : Int) : NestedKey := k3 (c / 4096) (c / 64 % 64) (c % 64)
def In3 (c : Int) : Prop := 0 ≤ c ∧ c < 262144
theorem key3_inj {c d : Int} (h : key3 c = key3 d) : c = d := by
  unfold key3 k3 at h
  injection h with h
  injection h with h1 h2
  injection h1 with h1
  injection h2 with h2 _
  injection h2 with h2
  injection h2 with h3 h4
  injection h3 with h3
  injection h4 with h4 _
  injection h4 with h4
  omega
def cod3D : List MP.D → Option (List Int)
  | [] => some []
  | .tuple [.int n, .tuple [.int a, .int b]] :: r => if (0 ≤ n ∧ n < 64) ∧ (0 ≤ a ∧ a < 64) ∧ 0 ≤ b ∧ b < 64 then (cod3D r).map ((n * 4096 + a * 64 + b) :: ·) else none
  | _ :: _ => none
def bUSort3 : List MP.D → Option MP.D
  | [.list xs] => (cod3D xs).bind fun ns => if ns.length < 64 then some (.list ((usrt ns).map unc3)) else none
  | _ => none
/-- the pair of the code p.2 lies at p.1 -/
def At3 (H : Hp) (p : Addr × Int) : Prop := In3 p.2 ∧ ∃ q, H p.1 = some (.tup [.int (p.2 / 4096), .ref q]) ∧ H q = some (.tup [.int (p.2 / 64 % 64), .int (p.2 % 64)])
theorem At3.same {H H' : Hp} {p : Addr × Int} (h : At3 H p) (e : ∀ b o, H b = some o → H' b = some o) : At3 H' p := by
  obtain ⟨h1, q, h2, h3⟩ := h
  exact ⟨h1, q, e _ _ h2, e _ _ h3⟩
theorem At3.rp {K : PySem.W.Frag} {O : List Addr} {H : Hp} {p : Addr × Int} (h : At3 H p) : Rp K O H (.ref p.1) (unc3 p.2) := by
  obtain ⟨h1, q, h2, h3⟩ := h
  exact .tup h2 (.cons (.int _) (.cons (.tup h3 (.cons (.int _) (.cons (.int _) .nil))) .nil))
theorem rp_all3 {K : PySem.W.Frag} {O : List Addr} {H : Hp} : ∀ {l : List (Addr × Int)}, (∀ p ∈ l, At3 H p) → RpAll K O H (l.map fun p => V.ref p.1) (l.map fun p => unc3 p.2)
  | [], _ => .nil
  | p :: l, h => .cons (h p List.mem_cons_self).rp (rp_all3 fun q hq => h q (List.mem_cons_of_mem _ hq))
theorem codes3 {K : PySem.W.Frag} {O : List Addr} {H : Hp} : ∀ {xs : List MP.D} {ns : List Int} {ys : List V}, cod3D xs = some ns → RpAll K O H ys xs → ∃ ks : List (Addr × Int), ys = ks.map (fun p => V.ref p.1) ∧ (∀ p ∈ ks, At3 H p) ∧ ks.map (·.2) = ns
  | [], ns, ys, h, r => by
    cases r
    cases h
    exact ⟨[], rfl, fun p hp => (nomatch hp), rfl⟩
  | x :: xs, ns, ys, h, r => by
    cases r with
    | cons r1 r2 =>
      unfold cod3D at h
      split at h
      · rename_i heq; cases heq
      · rename_i n a b rest heq
        cases heq
        by_cases hk : (0 ≤ n ∧ n < 64) ∧ (0 ≤ a ∧ a < 64) ∧ 0 ≤ b ∧ b < 64
        · rw [if_pos hk] at h
          obtain ⟨ns', h1, h2⟩ := Option.map_eq_some_iff.mp h
          subst h2
          obtain ⟨ks, e1, e2, e3⟩ := codes3 h1 r2
          obtain ⟨p, zs, rfl, hp, hz⟩ := rp1_tupP (Rp.one r1)
          cases hz with
          | cons z1 z2 =>
            cases z2 with
            | cons z2 z3 =>
              cases z3
              cases (show Rp K O H _ (.int n) from z1)
              obtain ⟨q, ws, rfl, hq, hw⟩ := rp1_tupP (Rp.one z2)
              have ew : ws = [V.int a, V.int b] := RpAll.ints (ns := [a, b]) hw
              subst ew
              refine ⟨(p, n * 4096 + a * 64 + b) :: ks, by rw [e1]; rfl, fun y hy => ?_, by rw [List.map_cons, e3]⟩
              rcases List.mem_cons.mp hy with rfl | hy
              · refine ⟨⟨by omega, by omega⟩, q, ?_, ?_⟩
                · rw [hp, show (n * 4096 + a * 64 + b) / 4096 = n by omega]
                · rw [hq, show (n * 4096 + a * 64 + b) / 64 % 64 = a by omega, show (n * 4096 + a * 64 + b) % 64 = b by omega]
              · exact e2 y hy
        · rw [if_neg hk] at h
          cases h
      · cases h
section
variable {X : Cx} {W : WX} {F : List Addr} {l l1 l2 l3 : Lv} {a b c e : Expr} {fa fb fc : E} {pos p p' p1 p2 p3 : Pos} {es : List Expr} {fe : EL} {ff : E} {i : Nat} {x : Str}
theorem At3.t3 {pins : List (Addr × Obj)} {σ : L2.St} {H : Hp} {s : Shared} (I : L2.Inv X pins σ H s) {p : Addr × Int} (h : At3 H p) : T3 s.heap (key3 p.2) p.1 := by
  obtain ⟨h1, q, h2, h3⟩ := h
  obtain ⟨its, r, ⟨o, ho, hc, n, hd⟩, _⟩ := I.tuple (.inl (.inl h2))
  obtain ⟨its2, r2, ⟨o2, ho2, hc2, n2, hd2⟩, _⟩ := I.tuple (.inl (.inl h3))
  refine ⟨⟨_, _, _, rfl⟩, .tup ho hc hd ?_⟩
  cases r with
  | cons r1 r =>
    cases r with
    | cons r3 r =>
      cases r
      obtain ⟨t1, rfl⟩ := r1
      cases r3
      cases r2 with
      | cons s1 r2 =>
        cases r2 with
        | cons s2 r2 =>
          cases r2
          obtain ⟨t2, rfl⟩ := s1
          obtain ⟨t3, rfl⟩ := s2
          exact .cons (.int _ _) (.cons (.tup ho2 hc2 hd2 (.cons (.int _ _) (.cons (.int _ _) .nil))) .nil)
/-- the keys of codes -/
def kk3 (l : List (Addr × Int)) : List (Addr × NestedKey) := l.map fun p => (p.1, key3 p.2)
/-- the set at a, without the tuples -/
def Set30 (w : World) (h : Heap) (a : Addr) (l : List (Addr × Int)) : Prop := ∃ (es : Array (Int × Value)) (ep : Nat) (t : SetTable), (∃ o, h.get? a = some o ∧ o.ExactSet ∧ o.data = .set es ep t) ∧ es.toList = ent3 w (kk3 l) ∧ TabOk t (hsh3 w (kk3 l)) ∧
  ((kk3 l).map (·.2)).Nodup ∧ t.plain = true ∧ (w.params.followText "set-order" = true ∨ t.led = true) ∧ (kk3 l).length * 5 < t.mask * 3 ∧ (kk3 l).length < 64
def Set3O (w : World) (a : Addr) (l : List (Addr × Int)) : HO := .ext fun h => Set30 w h a l
theorem set3_obj {P : Program} {w : World} {H : Hp} {h : Heap} {a : Addr} {l : List (Addr × Int)} (R : Set30 w h a l) : ObjOk P w H h a (Set3O w a l) := by
  obtain ⟨es, ep, t, ⟨o, ho, z⟩, y⟩ := id R
  refine ⟨R, ⟨o, ho⟩, fun h1 h2 q k => ?_⟩
  obtain ⟨es', ep', t', ⟨o', ho', z'⟩, y'⟩ := (show Set30 w h1 a l from q)
  exact ⟨es', ep', t', ⟨o', k o' ho', z'⟩, y'⟩
theorem lift3 {cs : List (Addr × Int)} : ∀ {L : List (Addr × NestedKey)}, (∀ q ∈ L, q ∈ kk3 cs) → ∃ l : List (Addr × Int), L = kk3 l ∧ ∀ q ∈ l, q ∈ cs
  | [], _ => ⟨[], rfl, fun q hq => nomatch hq⟩
  | q :: L, h => by
    obtain ⟨l, e, hl⟩ := lift3 fun y hy => h y (List.mem_cons_of_mem _ hy)
    obtain ⟨z, hz, ez⟩ := List.mem_map.mp (h q List.mem_cons_self)
    refine ⟨z :: l, by rw [e, ← ez]; rfl, fun y hy => ?_⟩
    rcases List.mem_cons.mp hy with rfl | hy
    · exact hz
    · exact hl y hy
def rSet3 (K : PySem.W.Frag) (w : World) : List V → Hp → VK → Prop := fun xs H Q => ∃ (a : Addr) (cs : List (Addr × Int)), xs = [V.ref a] ∧ SqL K H a (cs.map fun p => V.ref p.1) ∧ (∀ p ∈ cs, At3 H p) ∧ cs.length < 64 ∧
  ∀ b l, H b = none → (∀ p ∈ l, p ∈ cs) → (∀ p ∈ cs, p.2 ∈ l.map (·.2)) → Q (.ref b) (upd H b (Set3O w b l))
theorem vals_refs3 : ∀ {cs : List (Addr × Int)} {us : List Value}, Vals (cs.map fun p => V.ref p.1) us → us = (kk3 cs).map fun p => Value.ref p.1
  | [], _, .nil => rfl
  | p :: cs, _, .cons r t => by
    cases r
    rw [vals_refs3 t]
    rfl
theorem cr_set3 (hc : X.calm = true) (hu : X.A.units + 64 < cLine) : CallR X (.type "set") (rSet3 X.K X.w) := by
  intro pins s σ H xs us Q I r h
  obtain ⟨a, cs, rfl, hl, hk, hf, q⟩ := h
  rw [Vals.ref1 r]
  obtain ⟨its, rv, pl, _⟩ := I.list hl
  have hn : H s.heap.objs.size = none := I.hok.fresh (Nat.le_refl _)
  have hlen : (kk3 cs).length = cs.length := by simp [kk3]
  refine make3 (P := X.prog) (w := X.w) (kk3 cs) (I.ok.hd hc) pl.isList (by simpa using vals_refs3 rv) (fun p hp => ?_) (by omega) (by omega) fun h' tk L es ep t R g k => ?_
  · obtain ⟨z, hz, rfl⟩ := List.mem_map.mp hp
    exact (hk z hz).t3 I
  obtain ⟨l, rfl, hlc⟩ := lift3 (cs := cs) fun p hp => List.mem_of_mem_take (g.1 p hp)
  refine ⟨.ref s.heap.objs.size, upd H s.heap.objs.size (Set3O X.w s.heap.objs.size l), I.laid (t' := tk) k (Nat.le_refl _) (set3_obj ⟨es, ep, t, R.obj, R.ents, R.tab, R.nod, R.pl, R.ld, R.rm, R.few⟩), rfl, q _ l hn hlc fun p hp => ?_⟩
  have h1 := g.2.1 (p.1, key3 p.2) (by rw [List.take_length]; exact List.mem_map.mpr ⟨p, hp, rfl⟩)
  obtain ⟨z, hz, ez⟩ := List.mem_map.mp h1
  obtain ⟨y, hy, rfl⟩ := List.mem_map.mp hz
  exact List.mem_map.mpr ⟨y, hy, key3_inj ez⟩
theorem eqvI (a b : Int) : PyData.eqv (.int a) (.int b) = decide (a = b) := by
  simp only [PyData.eqv]
  rfl
theorem lt3 {c d : Int} (hc : In3 c) (hd : In3 d) : PySem.W.dataLt (unc3 c) (unc3 d) = decide (c < d) := by
  unfold unc3
  rw [PySem.W.dataLt_pair (by simp [PySem.W.alike]) (by simp [PySem.W.alike, PySem.W.alikeAll]), PySem.W.dataLt_int, PySem.W.dataLt_ii]
  obtain ⟨c1, c2⟩ := hc
  obtain ⟨d1, d2⟩ := hd
  by_cases e1 : c / 4096 = d / 4096
  · have ye : PyData.eqv (.int (c / 4096)) (.int (d / 4096)) = true := by rw [eqvI]; simp [e1]
    rw [if_pos ye]
    by_cases e2 : c / 64 % 64 = d / 64 % 64 ∧ c % 64 = d % 64
    · have : c = d := by omega
      subst this
      simp
    · have ne : ¬ PyData.eqv (.tuple [.int (c / 64 % 64), .int (c % 64)]) (.tuple [.int (d / 64 % 64), .int (d % 64)]) = true := by simp [PyData.eqv, PyData.eqvAll]; omega
      rw [if_neg ne]
      apply decide_eq_decide.mpr
      omega
  · have ne : ¬ PyData.eqv (.int (c / 4096)) (.int (d / 4096)) = true := by rw [eqvI]; simp [e1]
    rw [if_neg ne]
    apply decide_eq_decide.mpr
    omega
def rSorted3 (K : PySem.W.Frag) (w : World) : List V → Hp → VK → Prop := fun vs H Q => ∃ (a : Addr) (l : List (Addr × Int)), vs = [V.ref a] ∧ H a = some (Set3O w a l) ∧ (∀ p ∈ l, At3 H p) ∧
  ∀ (m : List (Addr × Int)) (p : Addr), m.Perm l → (m.map (·.2)).Pairwise (· < ·) → H p = none → Q (.ref p) (upd H p (.lst (m.map fun z => V.ref z.1)))
theorem each3 : ∀ (l : List (Addr × Int)), PySem.W.EachIs (fun (u : Value) (z : Addr × Int) => u = .ref z.1) (l.map fun z => Value.ref z.1) l
  | [] => .nil
  | _ :: l => .cons rfl (each3 l)
theorem each3_eq : ∀ {us : List Value} {l : List (Addr × Int)}, PySem.W.EachIs (fun (u : Value) (z : Addr × Int) => u = .ref z.1) us l → us = l.map fun z => Value.ref z.1
  | _, _, .nil => rfl
  | _, _, .cons a b => by rw [a, each3_eq b]; rfl
theorem vals3 : ∀ (l : List (Addr × Int)), Vals (l.map fun z => V.ref z.1) (l.map fun z => Value.ref z.1)
  | [] => .nil
  | _ :: l => .cons rfl (vals3 l)
theorem flat3 : ∀ (l : List (Addr × Int)), flatL (l.map fun z => unc3 z.2) = true
  | [] => by simp [flatL]
  | z :: l => by
    have h : flatL (l.map fun z => unc3 z.2) = true := flat3 l
    simp only [List.map_cons, flatL, h]
    simp [unc3, flat, flatL]
theorem cr_sorted3 (hc : X.calm = true) (hu : X.A.units + 65 < cLine) : CallR X (.builtin "sorted") (rSorted3 X.K X.w) := by
  intro pins s σ H vs us Q I r h
  obtain ⟨a, l, rfl, ha, hk, q⟩ := h
  obtain ⟨es, ep, t, hob, hents, htab, hnod, hpl, hld, hrm, hfew⟩ := (show Set30 X.w s.heap a l from (I.hok a _ ha).1)
  have R : NSet X.w s.heap a (kk3 l) es ep t := ⟨hob, hents, htab, hnod, fun p hp => by
    obtain ⟨z, hz, rfl⟩ := List.mem_map.mp hp
    exact (hk z hz).t3 I, hpl, hld, hrm, hfew⟩
  obtain ⟨o, ho, hex, hd⟩ := hob
  have hll : l.length < 64 := by simpa [kk3] using hfew
  have sz : es.size = l.length := by rw [ent3_size hents]; simp [kk3]
  rw [Vals.ref1 r]
  refine Calls.call_function_entry kind_sorted plain_sorted entry_sorted (args_sorted1 _) ?_
  unfold Builtin.«sorted»
  refine wpAny_bind (m := checkCount "sorted" 1 1 _) (wpAny_pure ?_)
  refine wpAny_bind (collect_set (A := X.A.in1) (I.ok.hd hc) ⟨o, ho, hex.1, hd⟩ R.fits (by rw [sz]; unfold scanBound; omega) R.tab.ris hld fun s1 vs k1 hz g1 o1 pm => ?_)
  have ev : es.toList.map (·.2) = l.map fun z => Value.ref z.1 := by
    rw [hents]
    simp [ent3, kk3]
  rw [ev] at pm
  obtain ⟨l1, pl1, e1⟩ := perm_lift (fun z : Addr × Int => Value.ref z.1) pm l rfl
  subst e1
  have len1 : l1.length = l.length := pl1.length_eq
  have ll : l1.length ≤ sizeLine := by rw [sizeLine_eq]; omega
  refine wpAny_bind (wpAny_newList ?_ (by rw [List.length_map]; exact ll))
  have hoL : (s1.heap.push (seqObj "list" (l1.map fun z => Value.ref z.1).toArray 0)).get? s1.heap.objs.size = some (seqObj "list" (l1.map fun z => Value.ref z.1).toArray 0) := Heap.get?_push_size _ rfl
  have hk1 : ∀ p ∈ l1, At3 H p := fun p hp => hk p (pl1.mem_iff.mp hp)
  obtain ⟨as, rd⟩ := Dp.readsAll I (l1.map fun z => unc3 z.2) (l1.map fun z => V.ref z.1) (l1.map fun z => Value.ref z.1) ((rp_all3 (O := []) hk1).dp (flat3 l1)) (vals3 l1)
  have er : PySem.W.EachIs (fun u (z : Addr × Int) => ∃ as, Reads (PySem.W.sortingHeap (s1.heap.push (seqObj "list" (l1.map fun z => Value.ref z.1).toArray 0)) s1.heap.objs.size (l1.map fun z => Value.ref z.1)) u (unc3 z.2) as) (l1.map fun z => Value.ref z.1) l1 :=
    (PySem.W.readsAll_each (fun z : Addr × Int => unc3 z.2) rd).mono fun _ _ ⟨as, r⟩ => ⟨as, PyProof.Rows.Reads.keeps (fun b o e => PySem.W.sortingHeap_old (Nat.ne_of_lt (Heap.lt_size (k1 b o e))) (Heap.get?_push_of_some _ (k1 b o e))) r⟩
  refine wpAny_bind (wpAny_holding (sort_new (s := { s1 with heap := s1.heap.push (seqObj "list" (l1.map fun z => Value.ref z.1).toArray 0) }) (enc := fun z : Addr × Int => unc3 z.2) (R := fun (u : Value) (z : Addr × Int) => u = .ref z.1) hoL (each3 l1) er (fun d hd e he => ?_) (.inl fun d hd => ?_) ll (fun b hb => ?_) fun out hol hoe => ?_))
  · obtain ⟨x, _, rfl⟩ := List.mem_map.mp hd
    obtain ⟨y, _, rfl⟩ := List.mem_map.mp he
    simp [unc3, PySem.W.alike, PySem.W.alikeAll]
  · obtain ⟨x, _, rfl⟩ := List.mem_map.mp hd
    exact ⟨_, _, rfl⟩
  · have : (unc3 b.2).depth ≤ 8 := by simp [unc3, PyData.depth, PyData.depthAll]
    show X.A.units + 1 + 1 + (unc3 b.2).depth < cLine
    omega
  · have hs : (l1.mergeSort (PySem.W.dataLe false fun z : Addr × Int => unc3 z.2)).Pairwise (fun x y => PySem.W.dataLe false (fun z : Addr × Int => unc3 z.2) x y = true) := PySem.W.sort_pairwise (PySem.W.sortLe_total _ _ _ : PySem.W.TotalLe (PySem.W.dataLe false fun z : Addr × Int => unc3 z.2)) l1
    have hp : (l1.mergeSort (PySem.W.dataLe false fun z : Addr × Int => unc3 z.2)).Perm l1 := List.mergeSort_perm _ _
    generalize l1.mergeSort (PySem.W.dataLe false fun z : Addr × Int => unc3 z.2) = m at hs hp hoe
    have pml : m.Perm l := hp.trans pl1
    have nd : (m.map (·.2)).Nodup := by
      have h1 : ((kk3 m).map (·.2)).Nodup := ((pml.map fun p => (p.1, key3 p.2)).map (·.2)).nodup_iff.mpr hnod
      have h2 : (kk3 m).map (·.2) = (m.map (·.2)).map key3 := by simp [kk3]
      rw [h2] at h1
      exact nodup_of_map h1
    have le : (m.map (·.2)).Pairwise (· ≤ ·) := by
      rw [List.pairwise_map]
      refine hs.imp_of_mem fun {x y} hx hy hle => ?_
      have hx3 := (hk x (pml.mem_iff.mp hx)).1
      have hy3 := (hk y (pml.mem_iff.mp hy)).1
      have e : (!PySem.W.dataLt (unc3 y.2) (unc3 x.2)) = true := hle
      rw [lt3 hy3 hx3] at e
      by_cases g : y.2 < x.2
      · rw [decide_eq_true g] at e
        cases e
      · omega
    have eo := each3_eq hoe
    obtain ⟨e', he'⟩ := PyProof.Rows.sortedHeap_at (vs := l1.map fun z => Value.ref z.1) (out := out.toArray) hoL
    have hlm : (m.map fun z => V.ref z.1).length ≤ sizeLine := by rw [List.length_map, pml.length_eq, sizeLine_eq]; omega
    have hfr : H s1.heap.objs.size = none := I.hok.fresh hz
    have kp : ∀ b u, s.heap.get? b = some u → (PyProof.Rows.sortedHeap (s1.heap.push (seqObj "list" (l1.map fun z => Value.ref z.1).toArray 0)) s1.heap.objs.size (l1.map fun z => Value.ref z.1) out.toArray).get? b = some u := fun b u e => by
      have hb : b < s1.heap.objs.size := Heap.lt_size (k1 b u e)
      rw [PyProof.Rows.sortedHeap_old (Nat.ne_of_lt hb) (by rw [size_push']; exact Nat.lt_succ_of_lt hb)]
      exact Heap.get?_push_of_some _ (k1 b u e)
    have hv : Vals (m.map fun z => V.ref z.1) out := by rw [eo]; exact vals3 m
    obtain ⟨hp1, gn, dr, tk, os⟩ := s1
    dsimp only at g1 o1
    subst o1
    have J : L2.Inv X pins σ (upd H hp1.objs.size (.lst (m.map fun z => V.ref z.1))) { s with heap := PyProof.Rows.sortedHeap (hp1.push (seqObj "list" (l1.map fun z => Value.ref z.1).toArray 0)) hp1.objs.size (l1.map fun z => Value.ref z.1) out.toArray, gens := gn, drawn := dr, toks := tk } :=
      I.call (ch := []) (Un.laid kp hz hfr) (I.hok.laid kp hz ⟨hlm, out, e', hv, he'⟩) (by rw [g1]; exact I.bare) (fun _ z => nomatch z)
    exact wpAny_pure ⟨_, rfl, .ref hp1.objs.size, _, J, rfl, q m _ pml (lt_of_le_nodup le nd) hfr⟩
theorem j_usort3 (hc : X.calm = true) (hu : X.A.units + 65 < cLine) (m1 : X.mg "sorted" = none) (m2 : X.mg "set" = none) (g1 : Gl X "sorted") (g2 : Gl X "set") (ha : JA .w X W [e] fe)
    (hs : starEach [e] X.env = (false, eval e X.env) :: starEach [] X.env := by rfl) (hs2 : starEach [Expr.Call (.Name "set" p1) [e] [] p2] X.env = (false, eval (.Call (.Name "set" p1) [e] [] p2) X.env) :: starEach [] X.env := by rfl) :
    JE .f X W (.Call (.Name "sorted" p) [.Call (.Name "set" p1) [e] [] p2] [] pos) (eFn (fun ds => ret (bUSort3 ds)) fe) := by
  have h1 : PE X (.Call (.Name "set" p1) [e] [] p2) (tCB (rSet3 X.K X.w) (RdA .w X W fe)) := pe_callTy (cr_set3 hc (by omega)) g2 m2 PyProof.Rows.boot_set ha (by decide) (by decide) hs rfl
  refine ⟨PE.imp (pe_callB (cr_sorted3 hc hu) g1 m1 PyProof.Rows.boot_sorted (pa_cons h1 pa_nil hs2) (by decide) (by decide) hs2 rfl) ?_⟩
  intro σ H Q q
  refine fn_core q fun O m ds H1 vs rf e1 r1 q => ?_
  cases hb : bUSort3 ds with
  | none => rw [hb] at q; exact q.elim
  | some d =>
    rw [hb] at q
    unfold bUSort3 at hb
    split at hb
    · rename_i xs
      cases hi : cod3D xs with
      | none => rw [hi] at hb; cases hb
      | some ns =>
        rw [hi] at hb
        obtain ⟨a, ys, rfl, hsl, hr⟩ := one_listW r1
        obtain ⟨ks, rfl, hks, hcode⟩ := codes3 hi hr
        have hkl : ks.length = ns.length := by rw [← hcode, List.length_map]
        by_cases hz : ns.length < 64
        · have hb : some (PyData.list ((usrt ns).map unc3)) = some d := by rw [← hb]; exact (if_pos hz).symm
          cases hb
          refine ⟨a, ks, rfl, hsl, hks, by omega, fun p L hp hL1 hL2 => ?_⟩
          have s1 := same_upd (o := Set3O X.w p L) hp
          have hLP : ∀ q ∈ L, At3 H1 q := fun q hq => hks q (hL1 q hq)
          refine ⟨p, L, rfl, upd_same, fun q hq => (hLP q hq).same s1, fun M p2 pm pw hp2 => ?_⟩
          have hMP : ∀ q ∈ M, At3 H1 q := fun q hq => hLP q (pm.mem_iff.mp hq)
          have hcd : M.map (·.2) = usrt ns := by
            refine usrt_unique pw fun z => ?_
            rw [← hcode]
            constructor
            · intro hz
              obtain ⟨q, hq, rfl⟩ := List.mem_map.mp hz
              exact List.mem_map.mpr ⟨q, hL1 q (pm.mem_iff.mp hq), rfl⟩
            · intro hz
              obtain ⟨q, hq, rfl⟩ := List.mem_map.mp hz
              obtain ⟨r, hr, er⟩ := List.mem_map.mp (hL2 q hq)
              exact List.mem_map.mpr ⟨r, pm.mem_iff.mpr hr, er⟩
          rw [← hcd] at q
          have s2 := same_upd (o := .lst (M.map fun q => V.ref q.1)) hp2
          have ok1 : OwnOk O H1 := rf.ok.same e1
          have hrp : RpAll X.K O (upd H1 p (Set3O X.w p L)) (M.map fun q => V.ref q.1) ((M.map (·.2)).map unc3) := by
            rw [List.map_map]
            exact rp_all3 fun q hq => (hMP q hq).same s1
          exact q _ _ (s1.trans s2) ⟨p2, _, rfl, s1.free hp2, upd_same, rp_new hrp (ok1.same s1) hp2⟩
        · have hb : none = some d := by rw [← hb]; exact (if_neg hz).symm
          cases hb
    · cases hb
end
end MP

set_option Elab.async false
set_option linter.all false
set_option maxRecDepth 100000
set_option maxHeartbeats 1000000
namespace MP
open PySem PySem.Spec PyProof.Rows L2
section
variable {X : Cx} {W : WX} {F : List Addr} {tg iter tg1 iter1 elt : Expr} {fi fi1 : EL} {fl : E} {pos spos py : Pos} {i : Nat} {x : Str}
/-- x = [.. for .. for ..] on one line -/
theorem s_asgLc2 {scope : Scope} {own : List (Str × Nat)} {vs1 : List Nat} {t t1 : Tg} (hc : X.calm = true) (hN : X.N.Nodup) (hy : X.N[i]? = some x) (hyl : X.env.scope.names.lookup x = some .local)
    (hsw : swapsWith (.ListComp elt [⟨tg, iter, [], 0⟩, ⟨tg1, iter1, [], 0⟩] scope pos) (some (.Name x py)) spos.line X.env = pure true) (hi : JI .w X W tg iter fi) (ok : BlkOk X.N X.env.scope scope own) (hv : ∀ i ∈ t.slots, i ∈ own.map (·.2)) (hv1 : ∀ i ∈ vs1, i ∈ own.map (·.2)) (ht1 : ∀ i ∈ t1.slots, i ∈ vs1)
    (hg : ∀ (s : Shared) (H : Hp) (C : Addr) (cl : List (Str × Addr)) (fp : List Addr), JG (X.blk s H scope (compEnvC scope cl C X.env) fp) tg t)
    (hi1 : ∀ (s : Shared) (H : Hp) (C : Addr) (cl : List (Str × Addr)) (fp : List Addr), JI .s (X.blk s H scope (compEnvC scope cl C X.env) fp) W0 tg1 iter1 fi1)
    (hg1 : ∀ (s : Shared) (H : Hp) (C : Addr) (cl : List (Str × Addr)) (fp : List Addr), JG (X.blk s H scope (compEnvC scope cl C X.env) fp) tg1 t1)
    (he : ∀ (s : Shared) (H : Hp) (C : Addr) (cl : List (Str × Addr)) (fp : List Addr), JE .s (X.blk s H scope (compEnvC scope cl C X.env) fp) W0 elt fl) (hs : ∀ x, foldedSetIterable iter X.env x = pure x := by intro _; rfl) (hs1 : ∀ env x, foldedSetIterable iter1 env x = pure x := by intro _ _; rfl) :
    JS X W F (.Assign [.Name x py] (.ListComp elt [⟨tg, iter, [], 0⟩, ⟨tg1, iter1, [], 0⟩] scope pos) spos) (sAsg i (eComp2 (own.map (·.2)) vs1 t t1 fi fi1 fl)) :=
  ⟨PS.imp (ps_setLc2 (g := gT X.K t) (tt := tYes) (wi1 := RdI .s X W0 fi1) (g1 := gT X.K t1) (tt1 := tYes) (te := RdE .s X W0 fl) hc hN hy hyl hsw hi.pi ok hv1 (fun s H C cl fp => (hg s H C cl fp).pg) (fun s H C cl fp => pts_nil)
    (fun s H C cl fp => (hi1 s H C cl fp).pi) (fun s H C cl fp => (hg1 s H C cl fp).pg) (fun s H C cl fp => pts_nil) (fun s H C cl fp => (he s H C cl fp).pe) hs hs1) fun _ _ _ q => comp2_core hv hv1 ht1 (lift_s (asg_core q))⟩
end
end MP

set_option Elab.async false
set_option linter.all false
set_option maxRecDepth 100000
set_option maxHeartbeats 1000000
/-! exceptions that leave a comprehension -/
namespace MP
open PySem PySem.Spec PyProof.Rows L2
theorem noteFrame_frame {e : Value} {env env' : Env} (h : env.frame = env'.frame) : noteFrame e env = noteFrame e env' := by
  unfold noteFrame PySem.frameOf
  rw [h]
/-- an exception in the air of X, whose frame is at L -/
def XEL (X : Cx) (W : WX) (u : Value) (s' : Shared) : Prop :=
  ∃ (a : Addr) (B : Heap) (sI : Shared) (pins : List (Addr × Obj)) (σ : L2.St) (H : Hp) (cls : Value) (d : Option Addr) (L : Addr),
    u = .ref a ∧ X.env.frame = some L ∧ Inv X pins σ H sI ∧ (∀ b o, sI.heap.get? b = some o → b ∉ frs X.stack → B.get? b = some o) ∧ sI.heap.UpToSlots s'.heap ∧
      Sky B X.stack a (Zc cls d) L s'.heap ∧ H a = none ∧ s'.os = sI.os ∧ AllBare s'.gens ∧ W cls d σ H
def TakesL (X : Cx) (W : WX) : Prop := ∀ u s', XEL X W u s' → X.xe u s'
section
variable {X : Cx} {W : WX}
theorem takesL_of (hf : X.env.frame = some X.env.locals) (tk : Takes X W) : TakesL X W := fun u s' x => by
  obtain ⟨a, B, sI, pins, σ, H, cls, d, L, e, hL, I, nb, up, sky, r⟩ := x
  rw [hf] at hL
  cases hL
  exact tk u s' ⟨a, B, sI, pins, σ, H, cls, d, e, I, nb, up, sky, r⟩
theorem xel_call {pins : List (Addr × Obj)} {σ : L2.St} {H : Hp} {s s' : Shared} {E : XK} {L : Addr} (hL : X.env.frame = some L) (I : Inv X pins σ H s) (hW : ∀ cls d H', E cls d H' → W cls d σ H') {u : Value} (c : L2.CX X.prog X.w X.stack H s E u s') : XEL X W u s' := by
  obtain ⟨a, B, H', cls, d, rfl, fl, hok, ub, na, os, ag, hE⟩ := c
  have onB : ∀ b o, B.get? b = some o → s'.heap.get? b = some o := fl.1
  obtain ⟨G, yes, no⟩ := restrict s'.heap fun b => (B.get? b).isSome || decide (b ∈ frs X.stack)
  have inG : ∀ b o, B.get? b = some o → G.get? b = some o := fun b o e => (yes b (by rw [e]; rfl)).trans (onB b o e)
  have frG : ∀ b, b ∈ frs X.stack → G.get? b = s'.heap.get? b := fun b hb => yes b (by rw [decide_eq_true hb, Bool.or_true])
  have back : ∀ b o, G.get? b = some o → s'.heap.get? b = some o := fun b o e => by
    cases hb : ((B.get? b).isSome || decide (b ∈ frs X.stack)) with
    | true => rw [← yes b hb]; exact e
    | false => rw [no b hb] at e; cases e
  have ground : ∀ b o, G.get? b = some o → b ∉ frs X.stack → B.get? b = some o := fun b o e hb => by
    cases hB : B.get? b with
    | none =>
      rw [no b (by rw [hB, decide_eq_false hb]; rfl)] at e
      cases e
    | some o' =>
      rw [inG b o' hB] at e
      exact e
  have J : Inv X pins σ H' { s with heap := G, gens := s'.gens, drawn := s'.drawn, toks := s'.toks } := by
    refine I.call (ch := []) { keep := fun b o e n hb _ => inG b o (ub.keep b o e n hb), slot := fun b o e n hb _ => ?_, free := fun b o e n _ => ub.free b o e n, there := fun b o e _ => ?_, tups := ub.tups, frzs := ub.frzs, tbls := ub.tbls } (hok.kept inG) ag (fun _ z => nomatch z)
    · obtain ⟨sl, z⟩ := ub.slot b o e hb
      exact ⟨sl, (frG b hb).trans z⟩
    · cases hb : decide (b ∈ frs X.stack) with
      | true =>
        obtain ⟨sl, z⟩ := ub.slot b o e (of_decide_eq_true hb)
        exact ⟨_, (frG b (of_decide_eq_true hb)).trans z⟩
      | false =>
        obtain ⟨o', z⟩ := ub.there b o e (of_decide_eq_false hb)
        exact ⟨o', inG b o' z⟩
  exact ⟨a, B, _, pins, σ, H', cls, d, L, rfl, hL, J, ground, Heap.UpToSlots.of_keeps back, .inr (.inl fl), na, os, ag, hW _ _ _ hE⟩
theorem passL {L : Addr} (hL : X.env.frame = some L) (tk : TakesL X W) (σ : L2.St) : PassesAt (L2.CX X.prog X.w) X σ (WE W σ) := fun _ _ _ e s' I c => tk e s' (xel_call hL I (fun _ _ _ h => h) c)
/-- noted by the frame -/
theorem sky_note {M : Model} {A : Around} {E₁ : Value → Shared → Prop} {env : Env} {outer : List Env} {L a : Addr} {B : Heap} {s : Shared} {cls : Value} {d : Option Addr} {Q : Unit → Shared → Prop} (hfr : A.frames = some (env :: outer)) (hf : env.frame = some L)
    (x : Sky B (env :: outer) a (Zc cls d) L s.heap) (hQ : ∀ h', HandSPX.HeldZ B (env :: outer) a (Zc cls d) L h' → s.heap.UpToSlots h' → Q () { s with heap := h' }) : wpAny M A (noteFrame (.ref a) env) Q E₁ s := by
  rcases x with ⟨hB, hn, hl, oe, vs, he, hz, hd, h1⟩ | fl | hh
  · exact HandSPX.look_newZ Zc.steady hfr hl hf he hB hn hd h1 hz hQ
  · exact HandSPX.looks_onZ Zc.steady hfr hf fl hQ
  · exact HandSPX.againZ hf hh.2.2.2 (hQ s.heap hh (Heap.UpToSlots.refl _))
/-- how a comprehension ends; cenv: its own environment -/
def cPost (M : Model) (A : Around) (E : Value → Shared → Prop) (use : Option (Value → Sem Unit)) (Q : Value → Shared → Prop) (acc : Value) (cenv : Env) (r : Result) (s' : Shared) : Prop :=
  match r with
  | .ok f => compPost M A E use Q acc cenv.locals (.ok f) s'
  | .error x => ∃ m, s'.heap.Ns cenv.locals m ∧ ∀ h', Heap.SameBut cenv.locals s'.heap h' → wpAny M A (passOn "comprehension.variables-let-go" x cenv : Sem Value) (fun _ _ => False) E { s' with heap := h' }
theorem comp_runs {M : Model} {A : Around} {E : Value → Shared → Prop} {s : Shared} {env : Env} {e : Expr} {scope : Scope} {pos : Pos} {newAcc first : Sem Value} {g : Comprehension} {gs : List Comprehension} {cl : List (Str × Addr)} {use : Option (Value → Sem Unit)} {Q : Value → Shared → Prop}
    (hcl : clausesOf e = g :: gs) (hs : ∀ x, foldedSetIterable g.iter env x = pure x) (hclos : closureFor scope env = pure cl) (hkind : scope.kind = .function) (hnames : ∀ x ∈ scope.names, x.2 = .local → scope.names.lookup x.1 = some .local)
    (h : wpAny M A first (fun x s1 => wpAny M A (pyIter x) (fun it s2 => wpAny M A newAcc (fun acc s3 => wpAny M A (newFunctionEnv scope env.globals cl [] env.qual none .none (some env))
      (fun cenv s4 => codeAny M A (.compStart e 0 it acc { cenv with scope := relabel scope env }) (cPost M A E use Q acc { cenv with scope := relabel scope env }) s4) E s3) E s2) E s1) E s) :
    wpAny M A (comprehension e scope env pos newAcc false first use) Q E s := by
  unfold comprehension
  rw [hclos, hcl]
  refine wpAny_bind (wpAny_mono h (fun x s1 h1 => ?_) fun _ _ z => z)
  refine wpAny_bind (wpAny_standAt (wpAny_bind (wpAny_of_eq (hs x) (wpAny_bind (wpAny_holding (wpAny_mono h1 (fun it s2 h2 => ?_) fun _ _ z => z))))))
  refine wpAny_standIf (wpAny_bind (wpAny_mono h2 (fun acc s3 h3 => wpAny_bind (wpAny_pure (wpAny_bind (wpAny_mono h3 (fun cenv s4 h4 => ?_) fun _ _ z => z)))) fun _ _ z => z))
  dsimp only
  generalize hV : (scope.names.filter fun x => (x.2 == .local || x.2 == .cell) && x.1 != (".0" : Str)).reverse = vars
  have kinds : ∀ x ∈ vars, x.2 = .local → Env.kindOf { cenv with scope := relabel scope env } x.1 = some .local := fun x hx hl => by
    rw [← hV] at hx
    exact lookup_relabel_local (hnames x (List.mem_filter.mp (List.mem_reverse.mp hx)).1 hl)
  refine wpAny_holding (wpAny_bind (wpAny_attempt (wpAny_holding (wpAny_run (codeAny_mono h4 fun r s' hr => ?_)))))
  rcases r with x | f
  · obtain ⟨m, hn, k⟩ := hr
    exact wpAny_bind (wpAny_holding (wpAny_comp_letGo (cenv := { cenv with scope := relabel scope env }) hkind vars s' m kinds hn fun h' _ _ hs' => wpAny_mono (k h' hs') (fun _ _ z => z.elim) fun _ _ z => z))
  · cases use with
    | none =>
      obtain ⟨m, hn, k⟩ := hr
      exact wpAny_bind (wpAny_holding (wpAny_comp_letGo (cenv := { cenv with scope := relabel scope env }) hkind vars s' m kinds hn fun h' _ _ hs' => wpAny_pure (k h' hs')))
    | some u =>
      refine wpAny_bind (wpAny_rule (wpAny_bind (wpAny_holding (wpAny_mono hr (fun _ s2' k => ?_) fun _ _ z => z))))
      obtain ⟨m, hn, k⟩ := k
      refine wpAny_bind (wpAny_comp_letGo (cenv := { cenv with scope := relabel scope env }) hkind _ s2' m (fun x hx hl => ?_) hn fun h' _ _ hs' => wpAny_pure (k h' hs'))
      rcases List.mem_append.mp hx with z | z
      · exact kinds x (List.mem_of_mem_drop z) hl
      · exact kinds x (List.mem_of_mem_take z) hl
/-- the frame of X, the same for X's function and its blocks -/
structure Frm (X : Cx) (L : Addr) : Prop where
  fr : X.env.frame = some L
  st : ∃ fenv outer, X.stack = fenv :: outer ∧ fenv.frame = some L
theorem frames_but {h1 h2 B B2 : Heap} {C : Addr} (sb : ∀ b, b ≠ C → h2.get? b = h1.get? b) (bb : ∀ b, b ≠ C → B2.get? b = B.get? b) : ∀ {l : List Env}, h1.FunFrames B l → C ∉ frs l → h2.FunFrames B2 l
  | [], _, _ => trivial
  | env :: l, h, hn => by
    obtain ⟨hk, ⟨L, o, hf, hB, ho, hd⟩, hr⟩ := h
    have hLC : L ≠ C := fun z => hn (List.mem_filterMap.mpr ⟨env, List.mem_cons_self, by rw [hf, z]⟩)
    refine ⟨hk, ⟨L, o, hf, (bb L hLC).trans hB, (sb L hLC).trans ho, hd⟩, frames_but sb bb hr fun hm => hn ?_⟩
    obtain ⟨e, he, q⟩ := List.mem_filterMap.mp hm
    exact List.mem_filterMap.mpr ⟨e, List.mem_cons_of_mem _ he, q⟩
/-- an exception leaves the block -/
theorem air_out {E : XK} {L C : Addr} {pins : List (Addr × Obj)} {σ : L2.St} {H3 : Hp} {s3 s' : Shared} {scope : Scope} {cl : List (Str × Addr)} {fp : List Addr} {use : Option (Value → Sem Unit)} {Q : Value → Shared → Prop} {acc u : Value} (F : Frm X L) (I3 : Inv X pins σ H3 s3) (hC : C = s3.heap.objs.size)
    (f3 : ∀ b ∈ fp, FpOk X pins H3 b) (tk : TakesL X (WD E)) (x : XEL (X.blk s3 H3 scope (compEnvC scope cl C X.env) fp) (WD E) u s') :
    notedBy (model X.prog X.w) X.A (compEnvC scope cl C X.env) (fun e s2 => cPost (model X.prog X.w) X.A X.xe use Q acc (compEnvC scope cl C X.env) (.error e) s2) u s' := by
  obtain ⟨a, B, sI, pins', σ', H', cls, d, L', rfl, hL', I6, nb, up, sky, na, os, ag, hE⟩ := x
  obtain ⟨fenv, outer, hst, hfe⟩ := F.st
  have eL : L' = L := by
    have h1 : X.env.frame = some L' := hL'
    rw [F.fr] at h1
    exact (Option.some.inj h1).symm
  subst eL
  have hstB : (X.blk s3 H3 scope (compEnvC scope cl C X.env) fp).stack = X.stack := rfl
  have hfr : X.A.frames = some (fenv :: outer) := by rw [I3.ok.frames, hst]
  have fpC : FpOk X pins H' C := I3.fpOk (by rw [hC]; exact Nat.le_refl _) I6.free
  have nC : C ∉ frs X.stack := fun hm => by
    rcases List.mem_cons.mp (I3.stkSub C hm) with e | e
    · have h1 := I3.lt
      rw [← e, hC] at h1
      exact Nat.lt_irrefl _ h1
    · exact I3.nofs (a := C) (by rw [hC]; exact Nat.le_refl _) e
  obtain ⟨mC, nsC, _⟩ := I6.loc
  obtain ⟨oC, hoC⟩ : ∃ o, sI.heap.get? C = some o := by
    obtain ⟨o, _, _, ho, _⟩ := (show sI.heap.Ns C mC from nsC)
    exact ⟨o, ho⟩
  have bC : B.get? C = some oC := nb C oC hoC nC
  show wpAny _ _ (noteFrame (.ref a) (compEnvC scope cl C X.env)) _ _ s'
  rw [noteFrame_frame (show (compEnvC scope cl C X.env).frame = fenv.frame from F.fr.trans hfe.symm)]
  have sky1 : Sky B (fenv :: outer) a (Zc cls d) L' s'.heap := by rw [← hst]; exact sky
  refine sky_note hfr hfe sky1 fun h1 held up1 => ?_
  have J1 : Inv (X.blk s3 H3 scope (compEnvC scope cl C X.env) fp) pins' σ' H' { s' with heap := h1 } := I6.landed (s' := { s' with heap := h1 }) nb held.1 (up.trans up1) os ag
  obtain ⟨m1, ns1, _⟩ := J1.loc
  refine ⟨m1, ns1, fun h2 sb => ?_⟩
  have sb2 : ∀ b, b ≠ C → h2.get? b = h1.get? b := fun b hb => sb.2 b hb
  obtain ⟨G, gy, gn⟩ := restrict sI.heap fun b => decide (b ≠ C)
  obtain ⟨B2, by2, bn2⟩ := restrict B fun b => decide (b ≠ C)
  have inB2 : ∀ b o, b ≠ C → B.get? b = some o → B2.get? b = some o := fun b o hb e => (by2 b (decide_eq_true hb)).trans e
  have ofB2 : ∀ b o, B2.get? b = some o → b ≠ C ∧ B.get? b = some o := fun b o e => by
    by_cases hb : b = C
    · rw [bn2 b (by rw [hb]; simp)] at e
      cases e
    · exact ⟨hb, (by2 b (decide_eq_true hb)).symm.trans e⟩
  have ofG : ∀ b o, G.get? b = some o → b ≠ C ∧ sI.heap.get? b = some o := fun b o e => by
    by_cases hb : b = C
    · rw [gn b (by rw [hb]; simp)] at e
      cases e
    · exact ⟨hb, (gy b (decide_eq_true hb)).symm.trans e⟩
  obtain ⟨k1, k2, k3, oe, vs, T, oT, ts, t1, t2, t3, t4, t5, t6, t7, t8, t9⟩ := held
  have aC : a ≠ C := fun z => by rw [z, bC] at k2; cases k2
  have TC : T ≠ C := fun z => by rw [z, bC] at t5; cases t5
  have held2 : HandSPX.HeldZ B2 (fenv :: outer) a (Zc cls d) L' h2 := by
    refine ⟨fun b o e => ?_, ?_, ?_, oe, vs, T, oT, ts, (sb2 a aC).trans t1, t2, t3, t4, ?_, t6, (sb2 T TC).trans t7, t8, t9⟩
    · obtain ⟨hb, e⟩ := ofB2 b o e
      exact (sb2 b hb).trans (k1 b o e)
    · rw [by2 a (decide_eq_true aC)]
      exact k2
    · exact frames_but sb2 (fun b hb => by2 b (decide_eq_true hb)) k3 (by rw [← hst]; exact nC)
    · rw [by2 T (decide_eq_true TC)]
      exact t5
  have I7 : Inv X pins σ H' sI := I3.call' (ch := fp) I6.os I6.base I6.hok I6.bare fun b hb => ⟨(f3 b hb).2.2.2.1, (f3 b hb).2.1, (f3 b hb).2.2.2.2.1, (f3 b hb).2.2.2.2.2⟩
  have I8 : Inv X pins σ H' { sI with heap := G, toks := sI.toks } := I7.turned (it := C) (h' := G) (t' := sI.toks) (fun b o hb e => (gy b (decide_eq_true hb)).trans e) fpC.1 fpC.2.1 fpC.2.2.2.1 fpC.2.2.2.2.1 fpC.2.2.2.2.2
  unfold PySem.passOn
  refine wpAny_bind (wpAny_field ((sb2 a aC).trans t1) t3 t4 ?_)
  refine wp_if_neg (by simp) ?_
  rw [show (compEnvC scope cl C X.env).frame = some L' from F.fr]
  refine wpAny_bind (HandSPX.setFlight_onZ held2 fun h3 held3 up3 => ?_)
  refine wpAny_throw (tk _ _ ?_)
  refine ⟨a, B2, { sI with heap := G, toks := sI.toks }, pins, σ, H', cls, d, L', rfl, F.fr, I8, fun b o e hb => ?_, fun b o e hn => ?_, ?_, na, os, ag, hE⟩
  · obtain ⟨hbC, e⟩ := ofG b o e
    exact inB2 b o hbC (nb b o e hb)
  · obtain ⟨hbC, e⟩ := ofG b o e
    obtain ⟨sl, e1⟩ := (up.trans up1) b o e hn
    obtain ⟨sl3, e3⟩ := up3 b _ ((sb2 b hbC).trans e1) hn
    exact ⟨sl3, e3⟩
  · rw [hst]
    exact .inr (.inr held3)
/-- the context of a block that may let exceptions out -/
abbrev blkx (X : Cx) (s : Shared) (H : Hp) (scope : Scope) (cenv : Env) (fp : List Addr) (xe : Value → Shared → Prop) : Cx := { X.blk s H scope cenv fp with xe := xe }
theorem inv_xe {pins : List (Addr × Obj)} {σ : L2.St} {H : Hp} {s : Shared} {xe : Value → Shared → Prop} (I : Inv X pins σ H s) : Inv { X with xe := xe } pins σ H s := by
  obtain ⟨ok, a1, a2, a3, a4, a5, a6, a7, a8, a9, a10⟩ := I
  obtain ⟨b1, b2, b3, b4, b5, b6, b7, b8, b9, b10, b11, b12, b13, b14, b15, b16, b17, b18⟩ := ok
  exact ⟨⟨b1, b2, b3, b4, b5, b6, b7, b8, b9, b10, b11, b12, b13, b14, b15, b16, b17, b18⟩, a1, a2, a3, a4, a5, a6, a7, a8, a9, a10⟩
theorem inv_bx {pins : List (Addr × Obj)} {σ : L2.St} {H H0 : Hp} {s s0 : Shared} {scope : Scope} {cenv : Env} {fp : List Addr} {xe : Value → Shared → Prop} (I : Inv (blkx X s0 H0 scope cenv fp xe) pins σ H s) : Inv (X.blk s0 H0 scope cenv fp) pins σ H s := by
  obtain ⟨ok, a1, a2, a3, a4, a5, a6, a7, a8, a9, a10⟩ := I
  obtain ⟨b1, b2, b3, b4, b5, b6, b7, b8, b9, b10, b11, b12, b13, b14, b15, b16, b17, b18⟩ := ok
  exact ⟨⟨b1, b2, b3, b4, b5, b6, b7, b8, b9, b10, b11, b12, b13, b14, b15, b16, b17, b18⟩, a1, a2, a3, a4, a5, a6, a7, a8, a9, a10⟩
theorem takesL_blk {s0 : Shared} {H0 : Hp} {scope : Scope} {cenv : Env} {fp : List Addr} : TakesL (blkx X s0 H0 scope cenv fp (fun u s' => XEL (X.blk s0 H0 scope cenv fp) W u s')) W := fun u s' x => by
  obtain ⟨a, B, sI, pins, σ, H, cls, d, L, e, hL, I, r⟩ := x
  exact ⟨a, B, sI, pins, σ, H, cls, d, L, e, hL, inv_bx I, r⟩
theorem Frm.blk {L : Addr} (F : Frm X L) {s0 : Shared} {H0 : Hp} {scope : Scope} {cl : List (Str × Addr)} {C : Addr} {fp : List Addr} {xe : Value → Shared → Prop} : Frm (blkx X s0 H0 scope (compEnvC scope cl C X.env) fp xe) L := ⟨F.fr, F.st⟩
/-- the comprehension's premises: its block's context is any that takes the exceptions -/
abbrev InBlk (X : Cx) (E : XK) (scope : Scope) (p : Cx → Prop) : Prop := ∀ (s : Shared) (H : Hp) (C : Addr) (cl : List (Str × Addr)) (fp : List Addr) (xe : Value → Shared → Prop), TakesL (blkx X s H scope (compEnvC scope cl C X.env) fp xe) (WD E) → p (blkx X s H scope (compEnvC scope cl C X.env) fp xe)
theorem lcx_core {E : XK} {L : Addr} {pins : List (Addr × Obj)} {s : Shared} {σ : L2.St} {H : Hp} {Q : VK} {elt tg iter : Expr} {ifs : List Expr} {scope : Scope} {own : List (Str × Nat)} {pos pos' : Pos} {wi : TI} {g : TG} {tt : TT} {te : TE} {use : Option (Value → Sem Unit)} {Qf : Value → Shared → Prop}
    (F : Frm X L) (tk : TakesL X (WD E)) (hc : X.calm = true) (hN : X.N.Nodup) (I : Inv X pins σ H s) (hi : PI X tg iter wi) (ok : BlkOk X.N X.env.scope scope own) (hg : InBlk X E scope fun Y => PG Y tg g) (ht : InBlk X E scope fun Y => PTs Y ifs tt) (he : InBlk X E scope fun Y => PE Y elt te)
    (hs : ∀ x, foldedSetIterable iter X.env x = pure x) (h : tLc wi g tt te (own.map (·.2)) σ H Q)
    (hR : ∀ D C s' m H', Inv X pins σ H' s' → Q (.ref D) H' → s'.heap.Ns C m → FpOk X pins H' C → compPost (model X.prog X.w) X.A X.xe use Qf (.ref D) C (.ok .next) s') :
    wpAny (model X.prog X.w) X.A (comprehension (.ListComp elt [⟨tg, iter, ifs, 0⟩] scope pos) scope X.env pos' (newList []) false (eval iter X.env) use) Qf X.xe s := by
  have closed : ∀ y ∈ scope.names, y.2 = .free → ∃ c, X.env.cells.lookup y.1 = some c := fun y hy e => I.ok.has _ ((ok.free y hy e).imp id id)
  refine comp_runs (use := use) rfl hs (closure_ok closed) ok.kind (fun y hy e => by rw [ok.uniq y hy, e]) (thn (hi.run pins s σ H _ I h) fun xv s1 hx => thn hx fun itv s2 h2 => ?_)
  obtain ⟨it, fp, tn, J, H2, rfl, I2, T, st2, f2, q⟩ := h2
  refine wpAny_newObj_type (newEnv_comp ?_) (by show 0 ≤ sizeLine; decide)
  show codeAny _ _ (.compStart (.ListComp elt [⟨tg, iter, ifs, 0⟩] scope pos) 0 (.ref it) (.ref s2.heap.objs.size) (compEnvC scope (cellsFrom (({ s2 with heap := s2.heap.push { cls := .type "list", data := .seq ([] : List Value).toArray } } : Shared).heap.objs.size + 1) scope.names (cloFrom X.env.cells scope.names [])) ({ s2 with heap := s2.heap.push { cls := .type "list", data := .seq ([] : List Value).toArray } } : Shared).heap.objs.size X.env))
    (cPost (model X.prog X.w) X.A X.xe use Qf (.ref s2.heap.objs.size) (compEnvC scope (cellsFrom (({ s2 with heap := s2.heap.push { cls := .type "list", data := .seq ([] : List Value).toArray } } : Shared).heap.objs.size + 1) scope.names (cloFrom X.env.cells scope.names [])) ({ s2 with heap := s2.heap.push { cls := .type "list", data := .seq ([] : List Value).toArray } } : Shared).heap.objs.size X.env))
    { ({ s2 with heap := s2.heap.push { cls := .type "list", data := .seq ([] : List Value).toArray } } : Shared) with heap := pushCells (({ s2 with heap := s2.heap.push { cls := .type "list", data := .seq ([] : List Value).toArray } } : Shared).heap.push { cls := .type "dict", data := .dict #[] }) scope.names }
  generalize es3 : ({ s2 with heap := s2.heap.push { cls := .type "list", data := .seq ([] : List Value).toArray } } : Shared) = s3
  have hp3 : s3.heap = s2.heap.push { cls := .type "list", data := .seq ([] : List Value).toArray } := by rw [← es3]
  have hDn : H2 s2.heap.objs.size = none := I2.hok.fresh (Nat.le_refl _)
  obtain ⟨Wt, ⟨m0, w0⟩, turn⟩ := q s2.heap.objs.size hDn
  have old : ∀ b ∈ fp, b < s2.heap.objs.size := fun b hb => let ⟨o, e, _⟩ := T.obj _ _ st2 b hb; Heap.lt_size e
  generalize hD : s2.heap.objs.size = D at *
  have I3 : Inv X pins σ (upd H2 D (.lst [])) s3 := by
    rw [← es3]
    refine I2.laid (t' := s2.toks) (fun b o e => Heap.get?_push_of_some _ e) (Nat.le_of_eq hD) ⟨Nat.zero_le _, [], 0, .nil, ?_⟩
    rw [← hD]
    exact Heap.get?_push_size _ rfl
  have f3 : ∀ b ∈ fp, FpOk X pins (upd H2 D (.lst [])) b ∧ b < s3.heap.objs.size := fun b hb => by
    have lt := old b hb
    obtain ⟨z1, z2⟩ := f2 b hb
    exact ⟨⟨(upd_ne (Nat.ne_of_lt lt)).trans z1, z2⟩, by rw [hp3, Heap.size_push, hD]; exact Nat.lt_succ_of_lt lt⟩
  have st3 : tn 0 s3.heap := T.keep _ _ _ st2 fun b _ o e => by rw [hp3]; exact Heap.get?_push_of_some _ e
  have Ib := block_start I3 ok hN f3
  generalize hH3 : upd H2 D (.lst []) = H3 at *
  generalize eC : s3.heap.objs.size = C at *
  generalize cellsFrom (C + 1) scope.names (cloFrom X.env.cells scope.names []) = cl at *
  generalize es4 : ({ s3 with heap := pushCells (s3.heap.push { cls := .type "dict", data := .dict #[] }) scope.names } : Shared) = s4 at *
  have st4 : tn 0 s4.heap := T.keep _ _ _ st3 fun b _ o e => by rw [← es4]; exact pushCells_keeps _ _ _ _ (Heap.get?_push_of_some _ e)
  have tkY : TakesL (blkx X s3 H3 scope (compEnvC scope cl C X.env) fp (fun u s' => XEL (X.blk s3 H3 scope (compEnvC scope cl C X.env) fp) (WD E) u s')) (WD E) := takesL_blk
  have pg := hg s3 H3 C cl fp _ tkY
  have pt := ht s3 H3 C cl fp _ tkY
  have pe := he s3 H3 C cl fp _ tkY
  have out : ∀ u s', XEL (X.blk s3 H3 scope (compEnvC scope cl C X.env) fp) (WD E) u s' → notedBy (model X.prog X.w) X.A (compEnvC scope cl C X.env) (fun e s2 => cPost (model X.prog X.w) X.A X.xe use Qf (.ref D) (compEnvC scope cl C X.env) (.error e) s2) u s' := fun u s' x => air_out F I3 eC.symm (fun b hb => (f3 b hb).1) tk x
  have nfp : ∀ b ∈ fp, H3 b = none := fun b hb => (f3 b hb).1.1
  have Iy : Inv (blkx X s3 H3 scope (compEnvC scope cl C X.env) fp (fun u s' => XEL (X.blk s3 H3 scope (compEnvC scope cl C X.env) fp) (WD E) u s')) [] (wipe σ (own.map (·.2))) H3 s4 := inv_xe Ib
  generalize hY : blkx X s3 H3 scope (compEnvC scope cl C X.env) fp (fun u s' => XEL (X.blk s3 H3 scope (compEnvC scope cl C X.env) fp) (WD E) u s') = Y at *
  have yp : Y.prog = X.prog := by rw [← hY]
  have yw : Y.w = X.w := by rw [← hY]
  have yK : Y.K = X.K := by rw [← hY]
  have yc : Y.calm = true := by rw [← hY]; exact hc
  have yA : Y.A = X.A := by rw [← hY]
  have yl : Y.env = compEnvC scope cl C X.env := by rw [← hY]
  have yx : Y.xe = fun u s' => XEL (X.blk s3 H3 scope (compEnvC scope cl C X.env) fp) (WD E) u s' := by rw [← hY]
  have toB : ∀ {pins' : List (Addr × Obj)} {σ' : L2.St} {H' : Hp} {s' : Shared}, Inv Y pins' σ' H' s' → Inv (X.blk s3 H3 scope (compEnvC scope cl C X.env) fp) pins' σ' H' s' := fun I' => by
    rw [← hY] at I'
    exact inv_bx I'
  have stat : ∀ {σ' : L2.St} {H' : Hp} {s' : Shared}, Inv Y [] σ' H' s' → (∀ b ∈ fp, H' b = none) → ∀ b ∈ fp, FpOk Y [] H' b := fun {σ' H' s'} I' hn b hb => by
    have ex : b ∈ Y.ex := by rw [← hY]; exact hb
    have pn : Y.pn = [] := by rw [← hY]
    exact ⟨hn b hb, (I'.ok.exf b ex).1, I'.ok.exfs b ex, .inl ex, fun x c e => (I'.ok.exf b ex).2 x c e, fun p hp => by rw [pn] at hp; cases hp⟩
  have loop : codeAny (model X.prog X.w) X.A (.compLoop (.ListComp elt [⟨tg, iter, ifs, 0⟩] scope pos) 0 (.ref it) (.ref D) (compEnvC scope cl C X.env)) (cPost (model X.prog X.w) X.A X.xe use Qf (.ref D) (compEnvC scope cl C X.env)) s4 := by
    refine compLoop_any (fun n s' => ∃ i H', Inv Y [] (wipe σ (own.map (·.2))) H' s' ∧ tn i s'.heap ∧ (∀ b ∈ fp, H' b = none) ∧ Wt i n H') ?_ m0 ⟨0, H3, Iy, st4, nfp, w0⟩
    rintro n s5 ⟨i, H5, I5, st5, n5, w5⟩
    rcases turn i n H5 w5 with ⟨stop, qq⟩ | ⟨go, Nx, hNx, step⟩
    · have td := T.done Y yp yw yK yc i [] s5 _ H5 (fun _ _ => False) I5 (stat I5 n5) st5 stop
      rw [yA] at td
      refine thnF td fun r s6 ⟨hr, I6⟩ => ?_
      subst hr
      have B6 := toB I6
      have I7 : Inv X pins σ H5 s6 := I3.call' (ch := fp) B6.os B6.base B6.hok B6.bare fun b hb => ⟨(f3 b hb).1.2.2.2.1, (f3 b hb).1.2.1, (f3 b hb).1.2.2.2.2.1, (f3 b hb).1.2.2.2.2.2⟩
      obtain ⟨mm, hn, _⟩ := B6.loc
      exact hR D C s6 mm H5 I7 qq hn (I3.fpOk (by rw [eC]; exact Nat.le_refl _) B6.free)
    · have ti := T.item Y yp yw yK yc i [] s5 _ H5 (fun _ _ => False) I5 (stat I5 n5) st5 go
      rw [yA] at ti
      refine thnF ti fun r s6 ⟨u, hr, h6⟩ => ?_
      subst hr
      refine thnF h6 fun _ s7 ⟨x, H7, I7, r7, y7, st7, n7⟩ => ?_
      have P7 := I7.pinned (stat I7 n7) (T.obj _ _ st7)
      have fin : ∀ {σ8 : L2.St} {s' : Shared} {H' : Hp}, wipe σ8 (own.map (·.2)) = wipe σ (own.map (·.2)) → Inv Y ([] ++ pinsAt fp s7.heap) σ8 H' s' → Nx H' → ∃ m, m < n ∧ ∃ i H', Inv Y [] (wipe σ (own.map (·.2))) H' s' ∧ tn i s'.heap ∧ (∀ b ∈ fp, H' b = none) ∧ Wt i m H' := fun {σ8 s' H'} hw8 I' nx => by
        obtain ⟨m', hm, w'⟩ := hNx H' nx
        have pin : ∀ b ∈ fp, ∀ o, s7.heap.get? b = some o → s'.heap.get? b = some o ∧ H' b = none := fun b hb o e =>
          let z := I'.pin (b, o) (List.mem_append_right _ (List.mem_append_right _ (mem_pinsAt hb e)))
          ⟨z.1, z.2.1⟩
        refine ⟨m', hm, i + 1, H', (I'.unpinned (pins := [])).weak (by rw [← hw8, wipe_length]) (fun j v e => ?_), T.keep _ _ _ st7 fun b hb o e => (pin b hb o e).1, fun b hb => ?_, w'⟩
        · rw [← hw8] at e
          exact (wipe_some e).1
        · obtain ⟨o, e, _⟩ := T.obj _ _ st7 b hb
          exact (pin b hb o e).2
      have s1 := pg.run _ s7 _ H7 x u _ P7 r7 (step x H7 y7)
      rw [yp, yw, yA, yl, yx] at s1
      refine wpAny_mono s1 (fun _ s8 h8 => ?_) out
      obtain ⟨σ8, H8, I8, hw8, q8⟩ := h8
      have s2' := pt.run _ s8 σ8 H8 _ I8 q8
      rw [yp, yw, yA, yl, yx] at s2'
      refine wpAny_mono s2' (fun b s9 h9 => ?_) out
      obtain ⟨H9, I9, q9⟩ := h9
      cases b with
      | false => exact fin hw8 I9 q9
      | true =>
        have s3' := pe.run _ s9 σ8 H9 _ I9 q9
        rw [yp, yw, yA, yl, yx] at s3'
        refine wpAny_mono s3' (fun z s10 h10 => ?_) out
        obtain ⟨yv, H10, I10, r10, acc, hD10, hz10, nx⟩ := h10
        have s4' := app_ok (X := Y) (E := notedBy (model X.prog X.w) X.A (compEnvC scope cl C X.env) fun e s2 => cPost (model X.prog X.w) X.A X.xe use Qf (.ref D) (compEnvC scope cl C X.env) (.error e) s2) (Q := fun _ s5 => ∃ m, m < n ∧ ∃ i H', Inv Y [] (wipe σ (own.map (·.2))) H' s5 ∧ tn i s5.heap ∧ (∀ b ∈ fp, H' b = none) ∧ Wt i m H') I10 hD10 hz10 r10 fun s11 I11 => fin hw8 I11 nx
        rw [yp, yw, yA] at s4'
        exact s4'
  exact codeAny_compStart_list loop (T.self X.A 0 _ _ _ st4 loop)
end
end MP

set_option Elab.async false
set_option linter.all false
set_option maxRecDepth 100000
set_option maxHeartbeats 1000000
/-! comprehensions that may let an exception out, by data -/
namespace MP
open PySem PySem.Spec PyProof.Rows L2
def compGoX (t : Tg) (fc fl : E) (m : En) : List MP.D → Option ResL
  | [] => some (.ok [])
  | d :: ds => match bindT t d m with
    | none => none
    | some m1 => match fc m1 with
      | some (.ok (.bool true)) => (match fl m1 with
        | some (.ok y) => (match compGoX t fc fl m ds with
          | some (.ok ys) => some (.ok (y :: ys))
          | some (.exc c) => some (.exc c)
          | none => none)
        | some (.exc c) => some (.exc c)
        | none => none)
      | some (.ok (.bool false)) => compGoX t fc fl m ds
      | _ => none
def eCompX (vs : List Nat) (t : Tg) (fi : EL) (fc fl : E) : E := fun m => match fi m with
  | some (.ok ds) => if ds.length ≤ line then (match compGoX t fc fl (wipeM m vs) ds with
    | some (.ok ys) => some (.ok (.list ys))
    | some (.exc c) => some (.exc c)
    | none => none) else none
  | some (.exc c) => some (.exc c)
  | none => none
def joinL (ys : List MP.D) : ResL → ResL
  | .ok zs => .ok (ys ++ zs)
  | .exc c => .exc c
section
variable {X : Cx} {E : XK} {L : Addr} {F : List Addr} {tg iter elt e : Expr} {fi : EL} {fc fl : MP.E} {pos spos py p : Pos} {i : Nat} {x : Str} {es : List Expr} {fe : EL} {k : Nat} {g : List MP.D → Option Res}
theorem compX_core {own : List (Str × Nat)} {t : Tg} {fi : EL} (hv : ∀ i ∈ t.slots, i ∈ own.map (·.2)) {σ : L2.St} {H : Hp} {Q : VK} (h : RdE .f X (WD E) (eCompX (own.map (·.2)) t fi fc fl) σ H Q) :
    tLc (RdI .w X (WD E) fi) (gT X.K t) (RdT X (WD E) fc) (RdE .s X (WD E) fl) (own.map (·.2)) σ H Q := by
  obtain ⟨O, m, rf, q⟩ := h
  refine ⟨O, m, rf, ?_⟩
  unfold eCompX at q
  cases hf : fi m with
  | none => rw [hf] at q; exact q.elim
  | some z =>
    rw [hf] at q
    cases z with
    | exc c => exact q
    | ok ds =>
      intro H1 J s1 wk
      dsimp only at q
      by_cases hl : ds.length ≤ line
      · rw [if_pos hl] at q
        cases hgo : compGoX t fc fl (wipeM m (own.map (·.2))) ds with
        | none => rw [hgo] at q; exact q.elim
        | some total =>
          rw [hgo] at q
          intro Dd hD
          have nO : Dd ∉ O := (rf.ok.same s1).fresh hD
          have rf1 : Ref X (Dd :: O) m σ (upd H1 Dd (.lst [])) := (rf.same s1).plus hD
          refine ⟨fun i n H' => n = ds.length - i ∧ i ≤ ds.length ∧ Same H1 H' ∧ OwnOk (Dd :: O) H' ∧ ∃ acc ys zs, H' Dd = some (.lst acc) ∧ RpAll X.K (Dd :: O) H' acc ys ∧ acc.length ≤ i ∧ compGoX t fc fl (wipeM m (own.map (·.2))) (ds.drop i) = some zs ∧ joinL ys zs = total,
            ⟨_, rfl, Nat.zero_le _, same_upd hD, rf1.ok, [], [], total, upd_same, .nil, Nat.le_refl _, hgo, by cases total <;> rfl⟩, ?_⟩
          rintro i n H' ⟨rfl, hi, s2, ok2, acc, ys, zs, a1, a2, a3, a4, a5⟩
          have rch : Rch .w O H1 (Dd :: O) H' := ⟨s2, fun a ha => (List.mem_cons.mp ha).elim (fun e => .inr (by rw [e]; exact hD)) .inl⟩
          by_cases hlt : i < ds.length
          · have hd : ds[i]? = some ds[i] := List.getElem?_eq_getElem hlt
            have hdrop : ds.drop i = ds[i] :: ds.drop (i + 1) := List.drop_eq_getElem_cons hlt
            rw [hdrop] at a4
            obtain ⟨go, yl⟩ := wk.1 (Dd :: O) H' i ds[i] rch hd
            refine .inr ⟨go, fun H' => i + 1 ≤ ds.length ∧ Same H1 H' ∧ OwnOk (Dd :: O) H' ∧ ∃ acc ys zs, H' Dd = some (.lst acc) ∧ RpAll X.K (Dd :: O) H' acc ys ∧ acc.length ≤ i + 1 ∧ compGoX t fc fl (wipeM m (own.map (·.2))) (ds.drop (i + 1)) = some zs ∧ joinL ys zs = total,
              fun H2 ⟨b1, b2, b3⟩ => ⟨ds.length - (i + 1), by omega, rfl, b1, b2, b3⟩, fun x H2 hy => ?_⟩
            obtain ⟨s3, rx⟩ := yl x H2 hy
            have s12 : Same H1 H2 := s2.trans s3
            have rf2 : Ref X (Dd :: O) m σ H2 := (rf.same s1).grow (fr_ext s12 rch.2) (fun a ha => List.mem_cons_of_mem _ ha) (fun a ha => by
              rcases rf.ok.same s1 a ha with ⟨z, e⟩ | ⟨z, e⟩ | ⟨z, e⟩ <;> rw [e, s12 _ _ e]) (ok2.same s3)
            unfold compGoX at a4
            cases hb : bindT t ds[i] (wipeM m (own.map (·.2))) with
            | none => rw [hb] at a4; cases a4
            | some m1 =>
              rw [hb] at a4
              dsimp only at a4
              refine gT_ok (rf2.wiped _) rx hb fun τ rτ lτ gτ => ?_
              refine ⟨?_, ?_⟩
              · have e1 : wipe τ (own.map (·.2)) = wipe (wipe σ (own.map (·.2))) (own.map (·.2)) := wipe_ext lτ fun j hj => gτ j fun hm => hj (hv j hm)
                rw [e1]
                exact wipe_ext (wipe_length _ _) fun j hj => wipe_out hj
              · refine ⟨Dd :: O, m1, rτ, ?_⟩
                cases hcv : fc m1 with
                | none => rw [hcv] at a4; cases a4
                | some zc =>
                  rw [hcv] at a4
                  cases zc with
                  | exc c => cases a4
                  | ok dc =>
                    cases dc with
                    | bool bb =>
                      cases bb with
                      | false =>
                        intro H3 s4
                        exact iteF ⟨hlt, s12.trans s4, (ok2.same s3).same s4, acc, ys, zs, s4 _ _ (s3 _ _ a1), (a2.same s3).same s4, by omega, a4, a5⟩
                      | true =>
                        intro H3 s4
                        refine iteT ⟨Dd :: O, m1, rτ.same s4, ?_⟩
                        dsimp only at a4
                        cases hlv : fl m1 with
                        | none => rw [hlv] at a4; cases a4
                        | some zl =>
                          rw [hlv] at a4
                          cases zl with
                          | exc c =>
                            cases a4
                            subst a5
                            exact fun H4 C s5 hm => q H4 C ((s1.trans s12).trans (s4.trans s5)) hm
                          | ok y =>
                            intro H4 u s5 ru
                            dsimp only at a4
                            cases hrest : compGoX t fc fl (wipeM m (own.map (·.2))) (ds.drop (i + 1)) with
                            | none => rw [hrest] at a4; cases a4
                            | some zs' =>
                              rw [hrest] at a4
                              have s35 : Same H' H4 := (s3.trans s4).trans s5
                              have hD4 : H4 Dd = some (.lst acc) := s35 _ _ a1
                              have ok4 : OwnOk (Dd :: O) H4 := ok2.same s35
                              have frD : FrK X.K (Dd :: O) H4 (Dd :: O) (upd H4 Dd (.lst (acc ++ [u]))) := ⟨fun b ob hb hn => ⟨by rw [upd_ne fun e => hn (by simp [e])]; exact hb, hn⟩, ok4⟩
                              have hj : joinL (ys ++ [y]) zs' = total := by
                                cases zs' with
                                | ok l => cases a4; rw [← a5]; simp [joinL]
                                | exc c => cases a4; exact a5
                              refine ⟨acc, hD4, Nat.lt_of_le_of_lt a3 (Nat.lt_of_le_of_lt hi (line_lt hl)), hlt, fun b ob hb => ?_, fun b hb => ?_, acc ++ [u], ys ++ [y], zs', upd_same, ?_, by simp; omega, rfl, hj⟩
                              · have hne : b ≠ Dd := fun e => by rw [e, hD] at hb; cases hb
                                rw [upd_ne hne]
                                exact (s12.trans (s4.trans s5)) _ _ hb
                              · by_cases e : b = Dd
                                · rw [e]; exact .inl ⟨_, upd_same⟩
                                · rw [upd_ne e]; exact ok4 b hb
                              · exact ((a2.same s35).app (.cons ru .nil)).fr frD
                    | none => cases a4
                    | int i => cases a4
                    | str i => cases a4
                    | list i => cases a4
                    | tuple i => cases a4
                    | dict i => cases a4
          · have e : i = ds.length := by omega
            subst e
            rw [List.drop_length] at a4
            cases a4
            have a5 : ResL.ok (ys ++ []) = total := a5
            rw [List.append_nil] at a5
            subst a5
            exact .inl ⟨wk.2 (Dd :: O) H' _ rch (Nat.le_refl _), q _ _ (s1.trans s2) ⟨Dd, acc, rfl, s1.free hD, a1, a2⟩⟩
      · rw [if_neg hl] at q
        exact q.elim
theorem pe_lcx {ifs : List Expr} {scope : Scope} {own : List (Str × Nat)} {wi : TI} {g : TG} {tt : TT} {te : TE} (F : Frm X L) (tk : TakesL X (WD E)) (hc : X.calm = true) (hN : X.N.Nodup) (hi : PI X tg iter wi) (ok : BlkOk X.N X.env.scope scope own) (hg : InBlk X E scope fun Y => PG Y tg g)
    (ht : InBlk X E scope fun Y => PTs Y ifs tt) (he : InBlk X E scope fun Y => PE Y elt te) (hs : ∀ x, foldedSetIterable iter X.env x = pure x) : PE X (.ListComp elt [⟨tg, iter, ifs, 0⟩] scope pos) (tLc wi g tt te (own.map (·.2))) := by
  refine ⟨fun pins s σ H Q I h => ?_⟩
  rw [eval_ListComp]
  refine lcx_core F tk hc hN I hi ok hg ht he hs h fun D C s' m H' I' q hn f => ⟨m, hn, fun h2 sb => ?_⟩
  exact ⟨.ref D, H', I'.turned (t' := s'.toks) (fun b o hb e => (sb.2 b hb).trans e) f.1 f.2.1 f.2.2.2.1 f.2.2.2.2.1 f.2.2.2.2.2, rfl, q⟩
/-- [.. for .. in ..], an exception may leave it -/
theorem j_compX {ifs : List Expr} {scope : Scope} {own : List (Str × Nat)} {t : Tg} {fi : EL} (F : Frm X L) (tk : TakesL X (WD E)) (hc : X.calm = true) (hN : X.N.Nodup) (hi : JI .w X (WD E) tg iter fi) (ok : BlkOk X.N X.env.scope scope own) (hv : ∀ i ∈ t.slots, i ∈ own.map (·.2))
    (hg : InBlk X E scope fun Y => JG Y tg t) (ht : InBlk X E scope fun Y => JTs Y (WD E) ifs fc) (he : InBlk X E scope fun Y => JE .s Y (WD E) elt fl) (hs : ∀ x, foldedSetIterable iter X.env x = pure x := by intro _; rfl) :
    JE .f X (WD E) (.ListComp elt [⟨tg, iter, ifs, 0⟩] scope pos) (eCompX (own.map (·.2)) t fi fc fl) :=
  ⟨PE.imp (pe_lcx (g := gT X.K t) (tt := RdT X (WD E) fc) (te := RdE .s X (WD E) fl) F tk hc hN hi.pi ok (fun s H C cl fp xe t => (hg s H C cl fp xe t).pg) (fun s H C cl fp xe t => (ht s H C cl fp xe t).pts) (fun s H C cl fp xe t => (he s H C cl fp xe t).pe) hs) fun _ _ _ q => compX_core hv q⟩
/-- f(..), in a block -/
theorem j_callL {W : WX} {fe : EL} (d : Df X.prog X.w X.K X.mg X.base k x g) (F : Frm X L) (tk : TakesL X W) (hr : Room k X.A) (hg : Gl X x) (ha : JA .s X W (e :: es) fe) (hdb : (x == ("__debug__" : Str)) = false := by decide)
    (he : starEach (e :: es) X.env = (false, eval e X.env) :: starEach es X.env := by rfl) (hpl : (backTo pos (starEach es X.env)).any (·.1) = false := by rfl) : JE .s X W (.Call (.Name x p) (e :: es) [] pos) (eFn g fe) := by
  obtain ⟨f, fd, ps, h1, h2, h3, h4⟩ := d.ex
  refine ⟨PE.imp (pe_callSD (E := WE W) h4 hr hg h1 h2 h3 .nil (fun σ => passL F.fr tk σ) ha hdb he hpl) ?_⟩
  intro σ H Q q
  refine fn_core q fun O m ds H1 vs rf e1 r1 q => ?_
  refine ⟨O, ds, rf.ok.same e1, by rw [List.append_nil]; exact r1, ?_⟩
  cases hg : g ds with
  | none => rw [hg] at q; exact q
  | some z =>
    rw [hg] at q
    cases z with
    | exc c => exact q
    | ok d => exact fun H' v e2 r2 => q H' v e2 r2
end
end MP

set_option Elab.async false
set_option linter.all false
set_option maxRecDepth 100000
set_option maxHeartbeats 1000000
/-! texts: split, join, int of a text, a sign in a text -/
namespace MP
open PySem PySem.Spec PyProof.Rows L2
/-- a text cut at each c -/
def splC (c : Nat) : List Nat → List (List Nat)
  | [] => [[]]
  | x :: r => if x = c then [] :: splC c r else (match splC c r with
    | p :: ps => (x :: p) :: ps
    | [] => [[x]])
theorem splC_ne (c : Nat) : ∀ l : List Nat, ∃ p ps, splC c l = p :: ps
  | [] => ⟨[], [], rfl⟩
  | x :: r => by
    obtain ⟨p, ps, e⟩ := splC_ne c r
    unfold splC
    by_cases h : x = c
    · rw [if_pos h]; exact ⟨_, _, rfl⟩
    · rw [if_neg h, e]; exact ⟨_, _, rfl⟩
theorem spl_splC (c : Nat) : ∀ (l acc : List Nat), TL.spl [c] 0 acc l = (match splC c l with | p :: ps => (acc ++ p) :: ps | [] => [])
  | [], acc => by simp [TL.spl, splC]
  | x :: r, acc => by
    obtain ⟨p, ps, e⟩ := splC_ne c r
    have ih := fun acc => spl_splC c r acc
    unfold TL.spl splC
    by_cases h : x = c
    · have hp : TL.pre [c] (x :: r) = true := by rw [h]; simp [TL.pre]
      rw [if_pos hp, if_pos h]
      show acc :: TL.spl [c] 0 [] r = _
      rw [ih, e]
      simp
    · have hp : ¬ TL.pre [c] (x :: r) = true := by simp [TL.pre, h]
      rw [if_neg hp, if_neg h, ih, e]
      simp
abbrev mkS (l : List Nat) : Str := ⟨l.toArray⟩
theorem split_C {a : Str} {c : Nat} (hc : c < 256) : Txt.split a (mkS [c]) = (splC c a.cps.toList).map mkS := by
  have h := SX.split_S (a := a.cps.toList) (b := [c]) (by simp) (by simp [hc])
  obtain ⟨p, ps, e⟩ := splC_ne c a.cps.toList
  rw [spl_splC, e] at h
  have ea : SX.S a.cps.toList = a := by cases a; simp [SX.S]
  rw [ea] at h
  rw [e]
  simpa using h
def gSplit : MP.D → MP.D → Option MP.D
  | .str a, .str b => (match b.cps.toList with
    | [c] => if c < 256 ∧ a.length ≤ line then some (.list ((splC c a.cps.toList).map fun p => .str (mkS p))) else none
    | _ => none)
  | _, _ => none
def gJoin : MP.D → MP.D → Option MP.D
  | .str a, .list ds => (strsD ds).bind fun ys => if (ys.map (·.length)).sum + ys.length * a.length ≤ 16777216 then some (.str (Txt.join a ys)) else none
  | _, _ => none
theorem rp_parts {K : PySem.W.Frag} {O : List Addr} {H : Hp} {l : List (List Nat)} : RpAll K O H ((l.map mkS).map V.str) (l.map fun p => PyData.str (mkS p)) := by
  have h := RpAll.of_strs (K := K) (O := O) (H := H) (ns := l.map mkS)
  have e : (l.map mkS).map PyData.str = l.map fun p => PyData.str (mkS p) := by rw [List.map_map]; rfl
  rw [e] at h
  exact h
section
variable {X : Cx} {W : WX} {F : List Addr} {l l1 l2 l3 : Lv} {a b c e : Expr} {fa fb fc : E} {pos p p1 p2 p3 : Pos} {es : List Expr} {fe : EL} {K : PySem.W.Frag} {x : Str}
theorem od_split : OpM K .f (fun x xs H Q => ∃ a b, x = .str a ∧ xs = [.str b] ∧ (b.length == 0) = false ∧ a.length + 2 ≤ sizeLine ∧ rNewStrs (Txt.split a b) H Q) gSplit := by
  intro O H x y dx dy d Q ok rx ry hg q
  unfold gSplit at hg
  split at hg
  · rename_i u v
    split at hg
    · rename_i c hv
      split at hg
      · rename_i hh
        cases hg
        have ev : v = mkS [c] := by
          cases v
          rename_i cps
          have hv' : cps.toList = [c] := hv
          have : cps = #[c] := by rw [← Array.toArray_toList (xs := cps), hv']
          rw [this]
        subst ev
        refine ⟨u, mkS [c], rp1_str rx, by rw [rp1_str ry], rfl, by have := hh.2; have h2 : line = 100000 := rfl; rw [sizeLine_eq]; omega, fun p hp => ?_⟩
        rw [split_C hh.1]
        exact q _ _ (same_upd hp) ⟨p, _, rfl, hp, upd_same, rp_parts⟩
      · cases hg
    · cases hg
  · cases hg
theorem j_split (ha : JE l1 X W a fa) (hb : JE l2 X W b fb) (hbase : attributeBase a "split" X.env (eval a X.env) = eval a X.env := by rfl)
    (hfew : ((backTo p2 (starEach [b] X.env)).all (fun x => !x.1) && (backToKw p2 (keywordEach [] X.env)).all (fun x => x.1.isSome) && decide ([b].length + ([] : List Keyword).length + (if ([] : List Keyword).isEmpty then 0 else 1) < 30)) = true := by rfl)
    (hline : (p1.endLine == p2.line) = true := by rfl) (hs : starEach [b] X.env = (false, eval b X.env) :: starEach [] X.env := by rfl) :
    JE .f X W (.Call (.Attribute a "split" p1) [b] [] p2) (eMt "str" gSplit fa fb) :=
  j_mt PySem.F.plainAttrs_str PySem.F.slot_str_split PySem.F.type_str_split mt_split od_split ha hb hbase hfew hline hs
theorem od_join : OpM X.K .s (fun x xs H Q => ∃ a p, ∃ ys : List Str, x = .str a ∧ xs = [.ref p] ∧ (SqL X.K H p (ys.map V.str) ∨ SqT X.K H p (ys.map V.str)) ∧ (ys.map (·.length)).sum + ys.length * a.length ≤ 16777216 ∧ Q (.str (Txt.join a ys)) H) gJoin := by
  intro O H x y dx dy d Q ok rx ry hg q
  unfold gJoin at hg
  split at hg
  · rename_i u ds
    cases hs : strsD ds with
    | none => rw [hs] at hg; cases hg
    | some ys =>
      rw [hs] at hg
      by_cases hz : (ys.map (·.length)).sum + ys.length * u.length ≤ 16777216
      · have hg : some (PyData.str (Txt.join u ys)) = some d := by rw [← hg]; exact (if_pos hz).symm
        cases hg
        obtain ⟨a, zs, rfl, h1, h2⟩ := ry
        rw [strsD_eq hs] at h2
        have e := RpAll.strs h2
        subst e
        exact ⟨u, a, ys, rp1_str rx, rfl, .inl h1, hz, q H _ (Same.refl H) .of_str⟩
      · have hg : none = some d := by rw [← hg]; exact (if_neg hz).symm
        cases hg
  · cases hg
theorem j_join (ha : JE l1 X W a fa) (hb : JE l2 X W b fb) (hbase : attributeBase a "join" X.env (eval a X.env) = eval a X.env := by rfl)
    (hfew : ((backTo p2 (starEach [b] X.env)).all (fun x => !x.1) && (backToKw p2 (keywordEach [] X.env)).all (fun x => x.1.isSome) && decide ([b].length + ([] : List Keyword).length + (if ([] : List Keyword).isEmpty then 0 else 1) < 30)) = true := by rfl)
    (hline : (p1.endLine == p2.line) = true := by rfl) (hs : starEach [b] X.env = (false, eval b X.env) :: starEach [] X.env := by rfl) :
    JE .s X W (.Call (.Attribute a "join" p1) [b] [] p2) (eMt "str" gJoin fa fb) :=
  j_mt PySem.F.plainAttrs_str PySem.F.slot_str_join PySem.F.type_str_join mt_join od_join ha hb hbase hfew hline hs
/-- a sign in a text -/
def gInS : MP.D → MP.D → Option MP.D
  | .str a, .str b => (match a.cps.toList with
    | [c] => some (.bool (decide (c ∈ b.cps.toList)))
    | _ => none)
  | _, _ => none
theorem od_inS : OpD K .s (fun x y H Q => ∃ (c : Nat) (z : Str), x = .str ⟨#[c]⟩ ∧ y = .str z ∧ Q (.bl (decide (c ∈ z.cps.toList))) H) gInS := by
  intro O H x y dx dy d Q ok rx ry hg q
  unfold gInS at hg
  split at hg
  · rename_i u v
    split at hg
    · rename_i c hu
      cases hg
      have eu : u = ⟨#[c]⟩ := by
        cases u
        rename_i cps
        have hu' : cps.toList = [c] := hu
        have : cps = #[c] := by rw [← Array.toArray_toList (xs := cps), hu']
        rw [this]
      subst eu
      exact ⟨c, v, rp1_str rx, rp1_str ry, q H _ (Same.refl H) .of_bl⟩
    · cases hg
  · cases hg
theorem c_inS : CmpK X .In gInS := ⟨_, op_in_sign, od_inS⟩
/-- not in a tuple -/
def gNotInT (d : MP.D) : MP.D → Option MP.D
  | .tuple ds => if small d && small (.tuple ds) then some (.bool (!ds.any fun z => PyData.eqv z d)) else none
  | _ => none
def rNotInT (K : PySem.W.Frag) : R2 := fun x y H Q => ∃ d ds, Dp K H x d ∧ Dp K H y (.tuple ds) ∧ SeqAt.shaped d = true ∧ SeqAt.shaped (.tuple ds) = true ∧ Q (.bl (!ds.any fun z => PyData.eqv z d)) H
theorem op_notInT (hu : X.A.units + 65 < cLine) : OpR X (compareOp .NotIn) (rNotInT X.K) := by
  intro pins s σ H x y v u Q I rx ry h
  obtain ⟨d, ds, hd, he, sd, se, q⟩ := h
  obtain ⟨as, r1⟩ := Dp.reads I d x v hd rx
  obtain ⟨bs, r2⟩ := Dp.reads I (.tuple ds) y u he ry
  exact SeqAt.notIn_tuple_data r2 r1 (PyData.plain_of_canLay0 (.tuple ds) (SeqAt.canLay_of_shaped se)) (PyData.plain_of_canLay0 d (SeqAt.canLay_of_shaped sd)) (room_in_shaped sd hu) ⟨.bl _, H, I, rfl, q⟩
theorem od_notInT : OpD K .s (rNotInT K) gNotInT := by
  intro O H x y dx dy d Q ok rx ry hg q
  unfold gNotInT at hg
  split at hg
  · split at hg
    · rename_i hs
      rw [Bool.and_eq_true] at hs
      cases hg
      obtain ⟨a1, a2⟩ := small_dp rx hs.1
      obtain ⟨b1, b2⟩ := small_dp ry hs.2
      exact ⟨_, _, a1, b1, a2, b2, q H _ (Same.refl H) .of_bl⟩
    · cases hg
  · cases hg
theorem c_notinT (hu : X.A.units + 65 < cLine) : CmpK X .NotIn gNotInT := ⟨_, op_notInT hu, od_notInT⟩
/-- int of one or two figures -/
def numT : List Nat → Option Int
  | [a] => if 48 ≤ a ∧ a ≤ 57 then some ((a : Int) - 48) else none
  | [a, b] => if (48 ≤ a ∧ a ≤ 57) ∧ 48 ≤ b ∧ b ≤ 57 then some (((a : Int) - 48) * 10 + ((b : Int) - 48)) else none
  | _ => none
def bIntS : List MP.D → Option MP.D
  | [.str x] => (numT x.cps.toList).map PyData.int
  | _ => none
theorem num1 : ∀ a : Fin 10, PySem.intText? ⟨#[a.val + 48]⟩ = some (a.val : Int) := by decide +kernel
theorem num2 : ∀ a b : Fin 10, PySem.intText? ⟨#[a.val + 48, b.val + 48]⟩ = some ((a.val : Int) * 10 + b.val) := by decide +kernel
theorem numT_ok {x : Str} {n : Int} (h : numT x.cps.toList = some n) : PySem.intText? x = some n ∧ x.length ≤ 2 := by
  cases x with
  | mk cps =>
    have h : numT cps.toList = some n := h
    have ec : cps = cps.toList.toArray := by simp
    rw [ec]
    generalize cps.toList = l at h
    unfold numT at h
    split at h
    · rename_i a
      split at h
      · rename_i ha
        cases h
        have := num1 ⟨a - 48, by omega⟩
        have e : a - 48 + 48 = a := by omega
        simp only [e] at this
        refine ⟨this.trans ?_, by show _ ≤ 2; simp [Str.length]⟩
        congr 1
        omega
      · cases h
    · rename_i a b
      split at h
      · rename_i ha
        cases h
        have := num2 ⟨a - 48, by omega⟩ ⟨b - 48, by omega⟩
        have e : a - 48 + 48 = a := by omega
        have e2 : b - 48 + 48 = b := by omega
        simp only [e, e2] at this
        refine ⟨this.trans ?_, by show _ ≤ 2; simp [Str.length]⟩
        congr 1
        omega
      · cases h
    · cases h
theorem cr_intS : CallR X (.type "int") (fun xs H Q => ∃ z n, xs = [.str z] ∧ PySem.intText? z = some n ∧ z.length ≤ 2 ∧ Q (.int n) H) := by
  intro pins s σ H xs us Q I r h
  obtain ⟨z, n, rfl, hz, hl, q⟩ := h
  obtain ⟨u, rfl, rx⟩ := vals1 r
  obtain ⟨t, rfl⟩ := rx
  exact PySem.W.KIN.call_text hz (by omega) ⟨.int n, H, I.tok _, ⟨_, rfl⟩, q⟩
theorem od_intS : OpDL K .s (fun xs H Q => ∃ z n, xs = [.str z] ∧ PySem.intText? z = some n ∧ z.length ≤ 2 ∧ Q (.int n) H) bIntS := by
  intro O H vs ds d Q ok r h q
  unfold bIntS at h
  split at h
  · rename_i z
    obtain ⟨n, hn, rfl⟩ := Option.map_eq_some_iff.mp h
    obtain ⟨v, rfl, rv⟩ := pair_one r
    cases (show Rp K O H v (.str z) from rv)
    obtain ⟨h1, h2⟩ := numT_ok hn
    exact ⟨z, n, rfl, h1, h2, q H _ (Same.refl H) .of_int⟩
  · cases h
theorem j_intS (hm : X.mg "int" = none) (hgl : Gl X "int") (ha : JA .w X W (e :: es) fe) (he : starEach (e :: es) X.env = (false, eval e X.env) :: starEach es X.env := by rfl) (hpl : (backTo pos (starEach es X.env)).any (·.1) = false := by rfl) :
    JE .s X W (.Call (.Name "int" p) (e :: es) [] pos) (eFn (fun ds => ret (bIntS ds)) fe) := j_bt cr_intS od_intS hm PyProof.Rows.boot_int hgl ha (by decide) (by decide) he hpl
end
end MP

set_option Elab.async false
set_option linter.all false
set_option maxRecDepth 100000
namespace MP
open PySem PySem.Spec PyProof.Rows L2
theorem frm_cx {P : Program} {w : World} {K : PySem.W.Frag} {mg : Str → Option Value} {base : Heap} {N : List Str} {x : Str} {scope : Scope} {f : Addr} {cdv : Value} {A : Around} {outer : List Env} {s : Shared} {H : Hp} {E : XK} :
    Frm (cx P w K mg base N x scope f cdv A outer s H E) s.heap.objs.size := ⟨rfl, _, _, rfl, rfl⟩
end MP

set_option Elab.async false
set_option linter.all false
set_option maxRecDepth 100000
set_option maxHeartbeats 0
namespace MP
open PySem PySem.Spec PyProof.Rows L2
def N_is_int : List Str := ["value", "least", "most"]
def b_is_int : S := (sSeq (sRet (eAnd (eOp1 (gIsi "int") (eVar 0)) (eAnd (eNot (eOp1 (gIsi "bool") (eVar 0))) (eChain gLe gLe (eVar 1) (eVar 0) (eVar 2)))))
  sSkip)
def g_is_int : List MP.D → Option Res := mkG (b_is_int) 3 3
def N_are_teeth : List Str := ["value", "most", "least", "greatest", "teeth", "one", "other"]
def b_are_teeth (g_is_int : List MP.D → Option Res) : S := (sSeq (sIf (eOr (eNot (eOp1 (gIsi "tuple") (eVar 0))) (eNot (eChain gLe gLe (eC (.int 1)) (eFn (rB bLen) (elCons (eVar 0) elNil)) (eVar 1)))) (sSeq (sRet (eC (.bool false)))
  sSkip) sSkip)
  (sSeq (sIf (eNot (eFn (rB bAll) (elCons (eComp [4] (.nm 4) (iSeq (eVar 0)) (eC (.bool true)) (eFn g_is_int (elCons (eVarS 4) (elCons (eVarS 2) (elCons (eVarS 3) elNil))))) elNil))) (sSeq (sRet (eC (.bool false)))
  sSkip) sSkip)
  (sSeq (sRet (eFn (rB bAll) (elCons (eComp [5, 6] (.tp [5, 6]) (two (eVar 0) (eSlc (eVar 0) (pSome (eC (.int 1))) pNone) kZip) (eC (.bool true)) (eOp2 gLt (eVar 5) (eVar 6))) elNil)))
  sSkip)))
def g_are_teeth : List MP.D → Option Res := mkG (b_are_teeth g_is_int) 4 7
def N_are_rings : List Str := ["value"]
def b_are_rings (g_are_teeth : List MP.D → Option Res) : S := (sSeq (sRet (eFn g_are_teeth (elCons (eVarS 0) (elCons (eC (.int 3)) (elCons (eC (.int 10)) (elCons (eC (.int 60)) elNil))))))
  sSkip)
def g_are_rings : List MP.D → Option Res := mkG (b_are_rings g_are_teeth) 1 1
def N_are_cogs : List Str := ["value"]
def b_are_cogs (g_are_teeth : List MP.D → Option Res) : S := (sSeq (sRet (eFn g_are_teeth (elCons (eVarS 0) (elCons (eC (.int 8)) (elCons (eC (.int 8)) (elCons (eC (.int 50)) elNil))))))
  sSkip)
def g_are_cogs : List MP.D → Option Res := mkG (b_are_cogs g_are_teeth) 1 1
def N_is_bike : List Str := ["candidate"]
def b_is_bike (g_are_cogs : List MP.D → Option Res) (g_are_rings : List MP.D → Option Res) : S := (sSeq (sIf (eOr (eNot (eOp1 (gIsi "tuple") (eVar 0))) (eOp2 gNe (eFn (rB bLen) (elCons (eVar 0) elNil)) (eC (.int 2)))) (sSeq (sRet (eC (.bool false)))
  sSkip) sSkip)
  (sSeq (sRet (eAnd (eFn g_are_rings (elCons (eOp2 gIdx (eVar 0) (eC (.int 0))) elNil)) (eFn g_are_cogs (elCons (eOp2 gIdx (eVar 0) (eC (.int 1))) elNil))))
  sSkip))
def g_is_bike : List MP.D → Option Res := mkG (b_is_bike g_are_cogs g_are_rings) 1 1
def N_check_bike : List Str := ["value"]
def b_check_bike (g_is_bike : List MP.D → Option Res) : S := (sSeq (sIf (eNot (eFn g_is_bike (elCons (eVarS 0) elNil))) (sSeq (sRaise "InvalidBike")
  sSkip) sSkip)
  sSkip)
def g_check_bike : List MP.D → Option Res := mkG (b_check_bike g_is_bike) 1 1
def N_divisor : List Str := ["one", "other"]
def b_divisor : S := (sSeq (sWhile 1000000000000 (eOp2 gGt (eVar 1) (eC (.int 0))) (sSeq (sPar [0, 1] (mCons kDat (eVarS 1) (mCons kDat (eOp2 gMod (eVar 0) (eVar 1)) mNil)))
  sSkip))
  (sSeq (sRetV 0)
  sSkip))
def g_divisor : List MP.D → Option Res := mkG (b_divisor) 2 2
def N_reduced : List Str := ["above", "below", "part"]
def b_reduced (g_divisor : List MP.D → Option Res) : S := (sSeq (sAsg 2 (eFn g_divisor (elCons (eVarS 0) (elCons (eVarS 1) elNil))))
  (sSeq (sRet (eFn mkT (elCons (eOp2 gFdiv (eVar 0) (eVar 2)) (elCons (eOp2 gFdiv (eVar 1) (eVar 2)) elNil))))
  sSkip))
def g_reduced : List MP.D → Option Res := mkG (b_reduced g_divisor) 2 3
def N_all_gears : List Str := ["bike", "ring", "cog"]
def b_all_gears : S := (sSeq (sRet (eComp2 [1, 2] [2] (.nm 1) (.nm 2) (iRng1 (eFn (rB bLen) (elCons (eOp2 gIdx (eVar 0) (eC (.int 0))) elNil))) (iRng1 (eFn (rB bLen) (elCons (eOp2 gIdx (eVar 0) (eC (.int 1))) elNil))) (eFn mkT (elCons (eVarS 1) (elCons (eVarS 2) elNil)))))
  sSkip)
def g_all_gears : List MP.D → Option Res := mkG (b_all_gears) 1 3
def N_find_ratio : List Str := ["bike", "gear"]
def b_find_ratio (g_reduced : List MP.D → Option Res) : S := (sSeq (sRet (eFn g_reduced (elCons (eOp2 gIdx (eOp2 gIdx (eVar 0) (eC (.int 0))) (eOp2 gIdx (eVar 1) (eC (.int 0)))) (elCons (eOp2 gIdx (eOp2 gIdx (eVar 0) (eC (.int 1))) (eOp2 gIdx (eVar 1) (eC (.int 1)))) elNil))))
  sSkip)
def g_find_ratio : List MP.D → Option Res := mkG (b_find_ratio g_reduced) 2 2
def N_has_gear : List Str := ["bike", "candidate"]
def b_has_gear (g_is_int : List MP.D → Option Res) : S := (sSeq (sIf (eOr (eNot (eOp1 (gIsi "tuple") (eVar 1))) (eOp2 gNe (eFn (rB bLen) (elCons (eVar 1) elNil)) (eC (.int 2)))) (sSeq (sRet (eC (.bool false)))
  sSkip) sSkip)
  (sSeq (sRet (eAnd (eFn g_is_int (elCons (eOp2 gIdx (eVar 1) (eC (.int 0))) (elCons (eC (.int 0)) (elCons (eOp2 gSub (eFn (rB bLen) (elCons (eOp2 gIdx (eVar 0) (eC (.int 0))) elNil)) (eC (.int 1))) elNil)))) (eFn g_is_int (elCons (eOp2 gIdx (eVar 1) (eC (.int 1))) (elCons (eC (.int 0)) (elCons (eOp2 gSub (eFn (rB bLen) (elCons (eOp2 gIdx (eVar 0) (eC (.int 1))) elNil)) (eC (.int 1))) elNil))))))
  sSkip))
def g_has_gear : List MP.D → Option Res := mkG (b_has_gear g_is_int) 2 2
def N_check_gear : List Str := ["bike", "value"]
def b_check_gear (g_has_gear : List MP.D → Option Res) : S := (sSeq (sIf (eNot (eFn g_has_gear (elCons (eVarS 0) (elCons (eVarS 1) elNil)))) (sSeq (sRaise "InvalidGear")
  sSkip) sSkip)
  sSkip)
def g_check_gear : List MP.D → Option Res := mkG (b_check_gear g_has_gear) 2 2
def N_value_key : List Str := ["fraction"]
def b_value_key : S := (sSeq (sRet (eOp2 gFdiv (eOp2 gMul (eOp2 gIdx (eVar 0) (eC (.int 0))) (eC (.int 10000000))) (eOp2 gIdx (eVar 0) (eC (.int 1)))))
  sSkip)
def g_value_key : List MP.D → Option Res := mkG (b_value_key) 1 1
def N_find_gears : List Str := ["bike", "key", "gear"]
def b_find_gears (g_all_gears : List MP.D → Option Res) (g_find_ratio : List MP.D → Option Res) (g_value_key : List MP.D → Option Res) : S := (sSeq (sRet (eComp [1, 2] (.tp [1, 2]) (iSeq (eFn (rB bSort) (elCons (eComp [2] (.nm 2) (iSeq (eFn g_all_gears (elCons (eVarS 0) elNil))) (eC (.bool true)) (eFn mkT (elCons (eFn g_value_key (elCons (eFn g_find_ratio (elCons (eVarS 0) (elCons (eVarS 2) elNil))) elNil)) (elCons (eVarS 2) elNil)))) elNil))) (eC (.bool true)) (eVarS 2)))
  sSkip)
def g_find_gears : List MP.D → Option Res := mkG (b_find_gears g_all_gears g_find_ratio g_value_key) 1 3
def N__law_drawn : List Str := ["script", "k", "many", "cell", "turn", "rest"]
def b__law_drawn : S := (sSeq (sAsg 3 (eOp2 gMul (eC (.int 7)) (eVar 1)))
  (sSeq (sIf (eOp2 gNe (eVar 0) (eFn mkL elNil)) (sSeq (sAsg 3 (eOp2 gIdx (eVar 0) (eOp2 gMod (eVar 1) (eFn (rB bLen) (elCons (eVar 0) elNil)))))
  (sSeq (sAsg 4 (eOp2 gFdiv (eVar 1) (eFn (rB bLen) (elCons (eVar 0) elNil))))
  (sSeq (sIf (eAnd (eOp2 gGe (eVar 3) (eOp2 gPow (eC (.int 10)) (eC (.int 18)))) (eOp2 gLt (eVar 4) (eC (.int 60)))) (sSeq (sAsg 5 (eOp2 gFdiv (eVar 3) (eOp2 gPow (eC (.int 10)) (eC (.int 18)))))
  (sSeq (sWhile 1000000000000 (eAnd (eOp2 gGt (eVar 5) (eC (.int 0))) (eOp2 gGt (eVar 4) (eC (.int 0)))) (sSeq (sAsg 5 (eOp2 gFdiv (eVar 5) (eC (.int 1000000))))
  (sSeq (sAsg 4 (eOp2 gSub (eVar 4) (eC (.int 1))))
  sSkip)))
  (sSeq (sIf (eOp2 gGt (eVar 5) (eC (.int 0))) (sSeq (sRet (eOp2 gMod (eOp2 gMod (eVar 5) (eC (.int 1000000))) (eVar 2)))
  sSkip) sSkip)
  sSkip))) sSkip)
  (sSeq (sAsg 3 (eOp2 gAdd (eVar 3) (eOp2 gMul (eC (.int 6553)) (eOp2 gFdiv (eVar 1) (eFn (rB bLen) (elCons (eVar 0) elNil))))))
  sSkip)))) sSkip)
  (sSeq (sAsg 3 (eOp2 gMod (eOp2 gAdd (eOp2 gMul (eOp2 gMod (eVar 3) (eC (.int 2147483563))) (eC (.int 69069))) (eOp2 gMul (eC (.int 104723)) (eOp2 gAdd (eVar 1) (eC (.int 1))))) (eC (.int 2147483563))))
  (sSeq (sAsg 3 (eOp2 gMod (eOp2 gAdd (eOp2 gMul (eVar 3) (eVar 3)) (eOp2 gFdiv (eVar 3) (eC (.int 3)))) (eC (.int 2147483399))))
  (sSeq (sRet (eOp2 gMod (eOp2 gFdiv (eOp2 gMod (eOp2 gAdd (eOp2 gMul (eVar 3) (eVar 3)) (eOp2 gFdiv (eVar 3) (eC (.int 7)))) (eC (.int 2147483647))) (eC (.int 11))) (eVar 2)))
  sSkip)))))
def g__law_drawn : List MP.D → Option Res := mkG (b__law_drawn) 3 6
def N__law_bike : List Str := ["script", "at", "rings", "cogs", "k", "some"]
def b__law_bike (g__law_drawn : List MP.D → Option Res) : S := (sSeq (sPar [2, 3] (mCons kOwn (eFn mkL elNil) (mCons kOwn (eFn mkL elNil) mNil)))
  (sSeq (sFor (iRng1 (eOp2 gAdd (eC (.int 1)) (eFn g__law_drawn (elCons (eVarS 0) (elCons (eVarS 1) (elCons (eC (.int 3)) elNil)))))) (.nm 4) (sSeq (sAsg 5 (eFn mkL (elCons (eC (.int 20)) (elCons (eC (.int 24)) (elCons (eC (.int 30)) (elCons (eC (.int 36)) (elCons (eC (.int 40)) (elCons (eC (.int 42)) (elCons (eC (.int 48)) (elCons (eOp2 gAdd (eC (.int 11)) (eFn g__law_drawn (elCons (eVarS 0) (elCons (eOp2 gAdd (eOp2 gAdd (eVar 1) (eC (.int 2))) (eVar 4)) (elCons (eC (.int 50)) elNil))))) elNil))))))))))
  (sSeq (sApp 2 (eOp2 gIdx (eVar 5) (eFn g__law_drawn (elCons (eVarS 0) (elCons (eOp2 gAdd (eOp2 gAdd (eVar 1) (eC (.int 5))) (eVar 4)) (elCons (eC (.int 8)) elNil))))))
  sSkip)))
  (sSeq (sFor (iRng1 (eOp2 gAdd (eC (.int 1)) (eFn g__law_drawn (elCons (eVarS 0) (elCons (eOp2 gAdd (eVar 1) (eC (.int 1))) (elCons (eC (.int 5)) elNil)))))) (.nm 4) (sSeq (sAsg 5 (eFn mkL (elCons (eC (.int 10)) (elCons (eC (.int 12)) (elCons (eC (.int 15)) (elCons (eC (.int 18)) (elCons (eC (.int 20)) (elCons (eC (.int 24)) (elCons (eC (.int 30)) (elCons (eOp2 gAdd (eC (.int 8)) (eFn g__law_drawn (elCons (eVarS 0) (elCons (eOp2 gAdd (eOp2 gAdd (eVar 1) (eC (.int 8))) (eVar 4)) (elCons (eC (.int 43)) elNil))))) elNil))))))))))
  (sSeq (sApp 3 (eOp2 gIdx (eVar 5) (eFn g__law_drawn (elCons (eVarS 0) (elCons (eOp2 gAdd (eOp2 gAdd (eVar 1) (eC (.int 14))) (eVar 4)) (elCons (eC (.int 8)) elNil))))))
  sSkip)))
  (sSeq (sRet (eFn mkT (elCons (eFn (rB bTuple) (elCons (eFn (rB bUSort) (elCons (eVar 2) elNil)) elNil)) (elCons (eFn (rB bTuple) (elCons (eFn (rB bUSort) (elCons (eVar 3) elNil)) elNil)) elNil))))
  sSkip))))
def g__law_bike : List MP.D → Option Res := mkG (b__law_bike g__law_drawn) 2 6
def N_count_shifts : List Str := ["one", "other"]
def b_count_shifts : S := (sSeq (sRet (eOp2 gAdd (eFn (rB bAbs) (elCons (eOp2 gSub (eOp2 gIdx (eVar 0) (eC (.int 0))) (eOp2 gIdx (eVar 1) (eC (.int 0)))) elNil)) (eFn (rB bAbs) (elCons (eOp2 gSub (eOp2 gIdx (eVar 0) (eC (.int 1))) (eOp2 gIdx (eVar 1) (eC (.int 1)))) elNil))))
  sSkip)
def g_count_shifts : List MP.D → Option Res := mkG (b_count_shifts) 2 2
def N_find_ladder : List Str := ["bike", "found", "gear", "fraction"]
def b_find_ladder (g_find_gears : List MP.D → Option Res) (g_find_ratio : List MP.D → Option Res) : S := (sSeq (sOwn 1 (eFn mkL elNil))
  (sSeq (sFor (iSeq (eFn g_find_gears (elCons (eVarS 0) elNil))) (.nm 2) (sSeq (sAsg 3 (eFn g_find_ratio (elCons (eVarS 0) (elCons (eVarS 2) elNil))))
  (sSeq (sIf (eOp2 gNe (eSlc (eVar 1) (pSome (eOp1 gNeg (eC (.int 1)))) pNone) (eFn mkL (elCons (eVarS 3) elNil))) (sSeq (sApp 1 (eVarS 3))
  sSkip) sSkip)
  sSkip)))
  (sSeq (sRetV 1)
  sSkip)))
def g_find_ladder : List MP.D → Option Res := mkG (b_find_ladder g_find_gears g_find_ratio) 1 4
def N_is_ratio : List Str := ["value", "part"]
def b_is_ratio (g_divisor : List MP.D → Option Res) (g_is_int : List MP.D → Option Res) : S := (sSeq (sIf (eOr (eNot (eOp1 (gIsi "tuple") (eVar 0))) (eOr (eOp2 gNe (eFn (rB bLen) (elCons (eVar 0) elNil)) (eC (.int 2))) (eNot (eFn (rB bAll) (elCons (eComp [1] (.nm 1) (iSeq (eVar 0)) (eC (.bool true)) (eFn g_is_int (elCons (eVarS 1) (elCons (eC (.int 1)) (elCons (eC (.int 60)) elNil))))) elNil))))) (sSeq (sRet (eC (.bool false)))
  sSkip) sSkip)
  (sSeq (sRet (eOp2 gEq (eFn g_divisor (elCons (eOp2 gIdx (eVar 0) (eC (.int 0))) (elCons (eOp2 gIdx (eVar 0) (eC (.int 1))) elNil))) (eC (.int 1))))
  sSkip))
def g_is_ratio : List MP.D → Option Res := mkG (b_is_ratio g_divisor g_is_int) 1 2
def N__law_least : List Str := ["above", "below", "one", "other"]
def b__law_least : S := (sSeq (sPar [2, 3] (mCons kDat (eVarS 0) (mCons kDat (eVarS 1) mNil)))
  (sSeq (sWhile 1000000000000 (eOp2 gGt (eVar 3) (eC (.int 0))) (sSeq (sPar [2, 3] (mCons kDat (eVarS 3) (mCons kDat (eOp2 gMod (eVar 2) (eVar 3)) mNil)))
  sSkip))
  (sSeq (sRet (eFn mkT (elCons (eOp2 gFdiv (eVar 0) (eVar 2)) (elCons (eOp2 gFdiv (eVar 1) (eVar 2)) elNil))))
  sSkip)))
def g__law_least : List MP.D → Option Res := mkG (b__law_least) 2 4
def N__law_part : List Str := ["above", "below", "part", "k"]
def b__law_part : S := (sSeq (sAsg 2 (eFn (rB bMax) (elCons (eComp [3] (.nm 3) (two (eC (.int 1)) (eOp2 gAdd (eFn (rB bMin2) (elCons (eVar 0) (elCons (eVar 1) elNil))) (eC (.int 1))) kRng) (eAnd (eOp2 gEq (eOp2 gMod (eVar 0) (eVar 3)) (eC (.int 0))) (eOp2 gEq (eOp2 gMod (eVar 1) (eVar 3)) (eC (.int 0)))) (eVarS 3)) elNil)))
  (sSeq (sRet (eFn mkT (elCons (eOp2 gFdiv (eVar 0) (eVar 2)) (elCons (eOp2 gFdiv (eVar 1) (eVar 2)) elNil))))
  sSkip))
def g__law_part : List MP.D → Option Res := mkG (b__law_part) 2 4
def N_check_wanted : List Str := ["value", "one"]
def b_check_wanted (g_is_ratio : List MP.D → Option Res) : S := (sSeq (sIf (eOr (eNot (eOp1 (gIsi "list") (eVar 0))) (eOr (eNot (eChain gLe gLe (eC (.int 1)) (eFn (rB bLen) (elCons (eVar 0) elNil)) (eC (.int 6)))) (eNot (eFn (rB bAll) (elCons (eComp [1] (.nm 1) (iSeq (eVar 0)) (eC (.bool true)) (eFn g_is_ratio (elCons (eVarS 1) elNil))) elNil))))) (sSeq (sRaise "InvalidRatios")
  sSkip) sSkip)
  sSkip)
def g_check_wanted : List MP.D → Option Res := mkG (b_check_wanted g_is_ratio) 1 2
def N__law_badbike : List Str := ["script", "at", "bad"]
def b__law_badbike (g__law_drawn : List MP.D → Option Res) : S := (sSeq (sAsg 2 (eFn mkL (elCons (eC .none) (elCons (eFn mkT elNil) (elCons (eFn mkT (elCons (eFn mkT (elCons (eC (.int 30)) elNil)) elNil)) (elCons (eFn mkT (elCons (eFn mkT elNil) (elCons (eFn mkT (elCons (eC (.int 12)) elNil)) elNil))) (elCons (eFn mkT (elCons (eFn mkT (elCons (eC (.int 30)) elNil)) (elCons (eFn mkT elNil) elNil))) (elCons (eFn mkT (elCons (eFn mkT (elCons (eC (.int 40)) (elCons (eC (.int 30)) elNil))) (elCons (eFn mkT (elCons (eC (.int 12)) elNil)) elNil))) (elCons (eFn mkT (elCons (eFn mkT (elCons (eC (.int 30)) elNil)) (elCons (eFn mkT (elCons (eC (.int 12)) (elCons (eC (.int 12)) elNil))) elNil))) elNil)))))))))
  (sSeq (sAsg 2 (eOp2 gAdd (eVar 2) (eFn mkL (elCons (eFn mkT (elCons (eFn mkT (elCons (eC (.int 9)) elNil)) (elCons (eFn mkT (elCons (eC (.int 12)) elNil)) elNil))) elNil))))
  (sSeq (sAsg 2 (eOp2 gAdd (eVar 2) (eFn mkL (elCons (eFn mkT (elCons (eFn mkT (elCons (eC (.int 61)) elNil)) (elCons (eFn mkT (elCons (eC (.int 12)) elNil)) elNil))) (elCons (eFn mkT (elCons (eFn mkT (elCons (eC (.int 30)) elNil)) (elCons (eFn mkT (elCons (eC (.int 7)) elNil)) elNil))) (elCons (eFn mkT (elCons (eFn mkT (elCons (eC (.int 30)) elNil)) (elCons (eFn mkT (elCons (eC (.int 51)) elNil)) elNil))) (elCons (eFn mkL (elCons (eFn mkT (elCons (eC (.int 30)) elNil)) (elCons (eFn mkT (elCons (eC (.int 12)) elNil)) elNil))) (elCons (eFn mkT (elCons (eFn mkT (elCons (eC (.int 30)) (elCons (eC (.str "40")) elNil))) (elCons (eFn mkT (elCons (eC (.int 12)) elNil)) elNil))) elNil))))))))
  (sSeq (sRet (eOp2 gIdx (eOp2 gAdd (eVar 2) (eFn mkL (elCons (eFn mkT (elCons (eFn mkT (elCons (eC (.bool true)) elNil)) (elCons (eFn mkT (elCons (eC (.int 12)) elNil)) elNil))) elNil))) (eFn g__law_drawn (elCons (eVarS 0) (elCons (eVarS 1) (elCons (eC (.int 14)) elNil))))))
  sSkip))))
def g__law_badbike : List MP.D → Option Res := mkG (b__law_badbike g__law_drawn) 2 3
def N_gears : List Str := ["bike"]
def b_gears (g_check_bike : List MP.D → Option Res) (g_find_gears : List MP.D → Option Res) : S := (sSeq (sExpr (eFn g_check_bike (elCons (eVarS 0) elNil)))
  (sSeq (sRet (eFn g_find_gears (elCons (eVarS 0) elNil)))
  sSkip))
def g_gears : List MP.D → Option Res := mkG (b_gears g_check_bike g_find_gears) 1 1
def N__law_table : List Str := ["ride", "found", "i", "j"]
def b__law_table (g__law_part : List MP.D → Option Res) : S := (sSeq (sDNew 1)
  (sSeq (sFor (iRng1 (eFn (rB bLen) (elCons (eOp2 gIdx (eVar 0) (eC (.int 0))) elNil))) (.nm 2) (sSeq (sFor (iRng1 (eFn (rB bLen) (elCons (eOp2 gIdx (eVar 0) (eC (.int 1))) elNil))) (.nm 3) (sSeq (sDPutT 1 (elCons (eVarS 2) (elCons (eVarS 3) elNil)) (eFn g__law_part (elCons (eOp2 gIdx (eOp2 gIdx (eVar 0) (eC (.int 0))) (eVar 2)) (elCons (eOp2 gIdx (eOp2 gIdx (eVar 0) (eC (.int 1))) (eVar 3)) elNil))))
  sSkip))
  sSkip))
  (sSeq (sLck 1 (sRetV 1))
  sSkip)))
def g__law_table : List MP.D → Option Res := mkG (b__law_table g__law_part) 1 4
def N__law_less : List Str := ["one", "other"]
def b__law_less : S := (sSeq (sRet (eOp2 gLt (eOp2 gMul (eOp2 gIdx (eVar 0) (eC (.int 0))) (eOp2 gIdx (eVar 1) (eC (.int 1)))) (eOp2 gMul (eOp2 gIdx (eVar 1) (eC (.int 0))) (eOp2 gIdx (eVar 0) (eC (.int 1))))))
  sSkip)
def g__law_less : List MP.D → Option Res := mkG (b__law_less) 2 2
def N__law_rising : List Str := ["ratios", "found", "one", "k", "other"]
def b__law_rising (g__law_less : List MP.D → Option Res) : S := (sSeq (sAsg 1 (eFn mkL elNil))
  (sSeq (sFor (iSeq (eVarS 0)) (.nm 2) (sSeq (sIf (eOp2 gNotInL (eVar 2) (eVar 1)) (sSeq (sAsg 3 (eFn (rB bLen) (elCons (eComp [4] (.nm 4) (iSeq (eVar 1)) (eFn g__law_less (elCons (eVarS 4) (elCons (eVarS 2) elNil))) (eVarS 4)) elNil)))
  (sSeq (sAsg 1 (eOp2 gAdd (eOp2 gAdd (eSlc (eVar 1) pNone (pSome (eVar 3))) (eFn mkL (elCons (eVarS 2) elNil))) (eSlc (eVar 1) (pSome (eVar 3)) pNone)))
  sSkip)) sSkip)
  sSkip))
  (sSeq (sRetV 1)
  sSkip)))
def g__law_rising : List MP.D → Option Res := mkG (b__law_rising g__law_less) 1 5
def N_find_with : List Str := ["bike", "wanted", "gear"]
def b_find_with (g_all_gears : List MP.D → Option Res) (g_find_ratio : List MP.D → Option Res) : S := (sSeq (sRet (eComp [2] (.nm 2) (iSeq (eFn g_all_gears (elCons (eVarS 0) elNil))) (eOp2 gEq (eFn g_find_ratio (elCons (eVarS 0) (elCons (eVarS 2) elNil))) (eVar 1)) (eVarS 2)))
  sSkip)
def g_find_with : List MP.D → Option Res := mkG (b_find_with g_all_gears g_find_ratio) 2 3
def N__law_gears : List Str := ["bike", "found", "ring", "cog"]
def b__law_gears : S := (sSeq (sAsg 1 (eFn mkL elNil))
  (sSeq (sFor (iRng1 (eFn (rB bLen) (elCons (eOp2 gIdx (eVar 0) (eC (.int 0))) elNil))) (.nm 2) (sSeq (sAsg 1 (eOp2 gAdd (eVar 1) (eComp [3] (.nm 3) (iRng1 (eFn (rB bLen) (elCons (eOp2 gIdx (eVar 0) (eC (.int 1))) elNil))) (eC (.bool true)) (eFn mkT (elCons (eVarS 2) (elCons (eVarS 3) elNil))))))
  sSkip))
  (sSeq (sRetV 1)
  sSkip)))
def g__law_gears : List MP.D → Option Res := mkG (b__law_gears) 1 4
def N_is_gear : List Str := ["bike", "candidate"]
def b_is_gear (g_check_bike : List MP.D → Option Res) (g_has_gear : List MP.D → Option Res) : S := (sSeq (sExpr (eFn g_check_bike (elCons (eVarS 0) elNil)))
  (sSeq (sRet (eFn g_has_gear (elCons (eVarS 0) (elCons (eVarS 1) elNil))))
  sSkip))
def g_is_gear : List MP.D → Option Res := mkG (b_is_gear g_check_bike g_has_gear) 2 2
def N_ratio : List Str := ["bike", "gear"]
def b_ratio (g_check_bike : List MP.D → Option Res) (g_check_gear : List MP.D → Option Res) (g_find_ratio : List MP.D → Option Res) : S := (sSeq (sExpr (eFn g_check_bike (elCons (eVarS 0) elNil)))
  (sSeq (sExpr (eFn g_check_gear (elCons (eVarS 0) (elCons (eVarS 1) elNil))))
  (sSeq (sRet (eFn g_find_ratio (elCons (eVarS 0) (elCons (eVarS 1) elNil))))
  sSkip)))
def g_ratio : List MP.D → Option Res := mkG (b_ratio g_check_bike g_check_gear g_find_ratio) 2 2
def N_order_of : List Str := ["one", "other", "left", "right"]
def b_order_of : S := (sSeq (sPar [2, 3] (mCons kDat (eOp2 gMul (eOp2 gIdx (eVar 0) (eC (.int 0))) (eOp2 gIdx (eVar 1) (eC (.int 1)))) (mCons kDat (eOp2 gMul (eOp2 gIdx (eVar 1) (eC (.int 0))) (eOp2 gIdx (eVar 0) (eC (.int 1)))) mNil)))
  (sSeq (sIf (eOp2 gEq (eVar 2) (eVar 3)) (sSeq (sRet (eC (.int 0)))
  sSkip) sSkip)
  (sSeq (sRet (eIte (eOp2 gGt (eVar 2) (eVar 3)) (eC (.int 1)) (eOp1 gNeg (eC (.int 1)))))
  sSkip)))
def g_order_of : List MP.D → Option Res := mkG (b_order_of) 2 4
def N_ladder : List Str := ["bike"]
def b_ladder (g_check_bike : List MP.D → Option Res) (g_find_ladder : List MP.D → Option Res) : S := (sSeq (sExpr (eFn g_check_bike (elCons (eVarS 0) elNil)))
  (sSeq (sRet (eFn g_find_ladder (elCons (eVarS 0) elNil)))
  sSkip))
def g_ladder : List MP.D → Option Res := mkG (b_ladder g_check_bike g_find_ladder) 1 1
def N_shifts : List Str := ["bike", "one", "other"]
def b_shifts (g_check_bike : List MP.D → Option Res) (g_check_gear : List MP.D → Option Res) (g_count_shifts : List MP.D → Option Res) : S := (sSeq (sExpr (eFn g_check_bike (elCons (eVarS 0) elNil)))
  (sSeq (sExpr (eFn g_check_gear (elCons (eVarS 0) (elCons (eVarS 1) elNil))))
  (sSeq (sExpr (eFn g_check_gear (elCons (eVarS 0) (elCons (eVarS 2) elNil))))
  (sSeq (sRet (eFn g_count_shifts (elCons (eVarS 1) (elCons (eVarS 2) elNil))))
  sSkip))))
def g_shifts : List MP.D → Option Res := mkG (b_shifts g_check_bike g_check_gear g_count_shifts) 3 3
def N_is_near : List Str := ["one", "other", "percent", "left", "right"]
def b_is_near : S := (sSeq (sPar [3, 4] (mCons kDat (eOp2 gMul (eOp2 gIdx (eVar 0) (eC (.int 0))) (eOp2 gIdx (eVar 1) (eC (.int 1)))) (mCons kDat (eOp2 gMul (eOp2 gIdx (eVar 1) (eC (.int 0))) (eOp2 gIdx (eVar 0) (eC (.int 1)))) mNil)))
  (sSeq (sRet (eOp2 gLe (eOp2 gMul (eFn (rB bMax2) (elCons (eVar 3) (elCons (eVar 4) elNil))) (eC (.int 100))) (eOp2 gMul (eFn (rB bMin2) (elCons (eVar 3) (elCons (eVar 4) elNil))) (eOp2 gAdd (eC (.int 100)) (eVar 2)))))
  sSkip))
def g_is_near : List MP.D → Option Res := mkG (b_is_near) 3 5
def N_find_suiting : List Str := ["bike", "wanted", "percent", "found", "one", "gear"]
def b_find_suiting (g_all_gears : List MP.D → Option Res) (g_find_ratio : List MP.D → Option Res) (g_is_near : List MP.D → Option Res) : S := (sSeq (sOwn 3 (eFn mkL elNil))
  (sSeq (sFor (iSeq (eVarS 1)) (.nm 4) (sSeq (sApp 3 (eComp [5] (.nm 5) (iSeq (eFn g_all_gears (elCons (eVarS 0) elNil))) (eFn g_is_near (elCons (eFn g_find_ratio (elCons (eVarS 0) (elCons (eVarS 5) elNil))) (elCons (eVarS 4) (elCons (eVarS 2) elNil)))) (eVarS 5)))
  sSkip))
  (sSeq (sRetV 3)
  sSkip)))
def g_find_suiting : List MP.D → Option Res := mkG (b_find_suiting g_all_gears g_find_ratio g_is_near) 3 6
def N_check_course : List Str := ["bike", "wanted", "percent"]
def b_check_course (g_check_bike : List MP.D → Option Res) (g_check_wanted : List MP.D → Option Res) (g_is_int : List MP.D → Option Res) : S := (sSeq (sExpr (eFn g_check_bike (elCons (eVarS 0) elNil)))
  (sSeq (sExpr (eFn g_check_wanted (elCons (eVarS 1) elNil)))
  (sSeq (sIf (eNot (eFn g_is_int (elCons (eVarS 2) (elCons (eC (.int 0)) (elCons (eC (.int 100)) elNil))))) (sSeq (sRaise "InvalidPercent")
  sSkip) sSkip)
  sSkip)))
def g_check_course : List MP.D → Option Res := mkG (b_check_course g_check_bike g_check_wanted g_is_int) 3 3
def N_suiting : List Str := ["bike", "wanted", "percent"]
def b_suiting (g_check_course : List MP.D → Option Res) (g_find_suiting : List MP.D → Option Res) : S := (sSeq (sExpr (eFn g_check_course (elCons (eVarS 0) (elCons (eVarS 1) (elCons (eVarS 2) elNil)))))
  (sSeq (sRet (eFn g_find_suiting (elCons (eVarS 0) (elCons (eVarS 1) (elCons (eVarS 2) elNil)))))
  sSkip))
def g_suiting : List MP.D → Option Res := mkG (b_suiting g_check_course g_find_suiting) 3 3
def N_find_plan : List Str := ["bike", "wanted", "percent", "found", "gears", "later", "gear", "rows", "many", "plan"]
def b_find_plan (g_check_course : List MP.D → Option Res) (g_count_shifts : List MP.D → Option Res) (g_find_suiting : List MP.D → Option Res) : S := (sSeq (sExpr (eFn g_check_course (elCons (eVarS 0) (elCons (eVarS 1) (elCons (eVarS 2) elNil)))))
  (sSeq (sAsg 3 (eFn mkL (elCons (eFn mkT (elCons (eC (.int 0)) (elCons (eFn mkT elNil) elNil))) elNil)))
  (sSeq (sFor (iSeq (eOp1 gRev (eFn g_find_suiting (elCons (eVarS 0) (elCons (eVarS 1) (elCons (eVarS 2) elNil)))))) (.nm 4) (sSeq (sOwn 5 (eFn mkL elNil))
  (sSeq (sFor (iSeq (eVarS 4)) (.nm 6) (sSeq (sAsg 7 (eComp [8, 9] (.tp [8, 9]) (iSeq (eVar 3)) (eC (.bool true)) (eFn mkT (elCons (eOp2 gAdd (eVar 8) (eIte (eOp2 gNe (eVar 9) (eFn mkT elNil)) (eFn g_count_shifts (elCons (eVarS 6) (elCons (eOp2 gIdx (eVar 9) (eC (.int 0))) elNil))) (eC (.int 0)))) (elCons (eOp2 gAdd (eFn mkT (elCons (eVarS 6) elNil)) (eVar 9)) elNil)))))
  (sSeq (sIf (eOp2 gNe (eVar 7) (eFn mkL elNil)) (sSeq (sApp 5 (eFn (rB bMinD) (elCons (eVar 7) elNil)))
  sSkip) sSkip)
  sSkip)))
  (sSeq (sFrz 5 (sAsg 3 (eVarS 5)))
  sSkip))))
  (sSeq (sRet (eIte (eOp2 gNe (eVar 3) (eFn mkL elNil)) (eFn (rB bMinD) (elCons (eVar 3) elNil)) (eC .none)))
  sSkip))))
def g_find_plan : List MP.D → Option Res := mkG (b_find_plan g_check_course g_count_shifts g_find_suiting) 3 10
def N_fewest_for : List Str := ["bike", "wanted", "percent", "found"]
def b_fewest_for (g_find_plan : List MP.D → Option Res) : S := (sSeq (sAsg 3 (eFn g_find_plan (elCons (eVarS 0) (elCons (eVarS 1) (elCons (eVarS 2) elNil)))))
  (sSeq (sRet (eIte (eOp2 gIsNotN (eVar 3) (eC .none)) (eOp2 gIdx (eVar 3) (eC (.int 0))) (eC .none)))
  sSkip))
def g_fewest_for : List MP.D → Option Res := mkG (b_fewest_for g_find_plan) 3 4
def N_compare : List Str := ["bike", "one", "other"]
def b_compare (g_check_bike : List MP.D → Option Res) (g_check_gear : List MP.D → Option Res) (g_find_ratio : List MP.D → Option Res) (g_order_of : List MP.D → Option Res) : S := (sSeq (sExpr (eFn g_check_bike (elCons (eVarS 0) elNil)))
  (sSeq (sExpr (eFn g_check_gear (elCons (eVarS 0) (elCons (eVarS 1) elNil))))
  (sSeq (sExpr (eFn g_check_gear (elCons (eVarS 0) (elCons (eVarS 2) elNil))))
  (sSeq (sRet (eFn g_order_of (elCons (eFn g_find_ratio (elCons (eVarS 0) (elCons (eVarS 1) elNil))) (elCons (eFn g_find_ratio (elCons (eVarS 0) (elCons (eVarS 2) elNil))) elNil))))
  sSkip))))
def g_compare : List MP.D → Option Res := mkG (b_compare g_check_bike g_check_gear g_find_ratio g_order_of) 3 3
def N_count_ratios : List Str := ["bike"]
def b_count_ratios (g_check_bike : List MP.D → Option Res) (g_find_ladder : List MP.D → Option Res) : S := (sSeq (sExpr (eFn g_check_bike (elCons (eVarS 0) elNil)))
  (sSeq (sRet (eFn (rB bLen) (elCons (eFn g_find_ladder (elCons (eVarS 0) elNil)) elNil)))
  sSkip))
def g_count_ratios : List MP.D → Option Res := mkG (b_count_ratios g_check_bike g_find_ladder) 1 1
def N_gears_with : List Str := ["bike", "wanted"]
def b_gears_with (g_check_bike : List MP.D → Option Res) (g_find_with : List MP.D → Option Res) (g_is_ratio : List MP.D → Option Res) : S := (sSeq (sExpr (eFn g_check_bike (elCons (eVarS 0) elNil)))
  (sSeq (sIf (eNot (eFn g_is_ratio (elCons (eVarS 1) elNil))) (sSeq (sRaise "InvalidRatio")
  sSkip) sSkip)
  (sSeq (sRet (eFn g_find_with (elCons (eVarS 0) (elCons (eVarS 1) elNil))))
  sSkip)))
def g_gears_with : List MP.D → Option Res := mkG (b_gears_with g_check_bike g_find_with g_is_ratio) 2 2
def N_quotient : List Str := ["one", "other"]
def b_quotient (g_reduced : List MP.D → Option Res) : S := (sSeq (sRet (eFn g_reduced (elCons (eOp2 gMul (eOp2 gIdx (eVar 0) (eC (.int 0))) (eOp2 gIdx (eVar 1) (eC (.int 1)))) (elCons (eOp2 gMul (eOp2 gIdx (eVar 0) (eC (.int 1))) (eOp2 gIdx (eVar 1) (eC (.int 0)))) elNil))))
  sSkip)
def g_quotient : List MP.D → Option Res := mkG (b_quotient g_reduced) 2 2
def N_nearest_gear : List Str := ["bike", "gear", "fraction", "other"]
def b_nearest_gear (g_count_shifts : List MP.D → Option Res) (g_find_with : List MP.D → Option Res) : S := (sSeq (sRet (eOp2 gIdx (eFn (rB bMinD) (elCons (eComp [3] (.nm 3) (iSeq (eFn g_find_with (elCons (eVarS 0) (elCons (eVarS 2) elNil)))) (eC (.bool true)) (eFn mkT (elCons (eFn g_count_shifts (elCons (eVarS 1) (elCons (eVarS 3) elNil))) (elCons (eVarS 3) elNil)))) elNil)) (eC (.int 1))))
  sSkip)
def g_nearest_gear : List MP.D → Option Res := mkG (b_nearest_gear g_count_shifts g_find_with) 3 4
def N_higher_gear : List Str := ["bike", "gear", "known", "place"]
def b_higher_gear (g_check_bike : List MP.D → Option Res) (g_check_gear : List MP.D → Option Res) (g_find_ladder : List MP.D → Option Res) (g_find_ratio : List MP.D → Option Res) (g_nearest_gear : List MP.D → Option Res) : S := (sSeq (sExpr (eFn g_check_bike (elCons (eVarS 0) elNil)))
  (sSeq (sExpr (eFn g_check_gear (elCons (eVarS 0) (elCons (eVarS 1) elNil))))
  (sSeq (sAsg 2 (eFn g_find_ladder (elCons (eVarS 0) elNil)))
  (sSeq (sAsg 3 (eOp2 gAdd (eMt "list" gIndex (eVar 2) (eFn g_find_ratio (elCons (eVarS 0) (elCons (eVarS 1) elNil)))) (eC (.int 1))))
  (sSeq (sRet (eIte (eOp2 gLt (eVar 3) (eFn (rB bLen) (elCons (eVar 2) elNil))) (eFn g_nearest_gear (elCons (eVarS 0) (elCons (eVarS 1) (elCons (eOp2 gIdx (eVar 2) (eVar 3)) elNil)))) (eC .none)))
  sSkip)))))
def g_higher_gear : List MP.D → Option Res := mkG (b_higher_gear g_check_bike g_check_gear g_find_ladder g_find_ratio g_nearest_gear) 2 4
def N_lower_gear : List Str := ["bike", "gear", "known", "place"]
def b_lower_gear (g_check_bike : List MP.D → Option Res) (g_check_gear : List MP.D → Option Res) (g_find_ladder : List MP.D → Option Res) (g_find_ratio : List MP.D → Option Res) (g_nearest_gear : List MP.D → Option Res) : S := (sSeq (sExpr (eFn g_check_bike (elCons (eVarS 0) elNil)))
  (sSeq (sExpr (eFn g_check_gear (elCons (eVarS 0) (elCons (eVarS 1) elNil))))
  (sSeq (sAsg 2 (eFn g_find_ladder (elCons (eVarS 0) elNil)))
  (sSeq (sAsg 3 (eOp2 gSub (eMt "list" gIndex (eVar 2) (eFn g_find_ratio (elCons (eVarS 0) (elCons (eVarS 1) elNil)))) (eC (.int 1))))
  (sSeq (sRet (eIte (eOp2 gGe (eVar 3) (eC (.int 0))) (eFn g_nearest_gear (elCons (eVarS 0) (elCons (eVarS 1) (elCons (eOp2 gIdx (eVar 2) (eVar 3)) elNil)))) (eC .none)))
  sSkip)))))
def g_lower_gear : List MP.D → Option Res := mkG (b_lower_gear g_check_bike g_check_gear g_find_ladder g_find_ratio g_nearest_gear) 2 4
def N_check_wheel : List Str := ["value"]
def b_check_wheel (g_is_int : List MP.D → Option Res) : S := (sSeq (sIf (eNot (eFn g_is_int (elCons (eVarS 0) (elCons (eC (.int 100)) (elCons (eC (.int 250)) elNil))))) (sSeq (sRaise "InvalidWheel")
  sSkip) sSkip)
  sSkip)
def g_check_wheel : List MP.D → Option Res := mkG (b_check_wheel g_is_int) 1 1
def N_check_turns : List Str := ["value"]
def b_check_turns (g_is_int : List MP.D → Option Res) : S := (sSeq (sIf (eNot (eFn g_is_int (elCons (eVarS 0) (elCons (eC (.int 1)) (elCons (eC (.int 150)) elNil))))) (sSeq (sRaise "InvalidTurns")
  sSkip) sSkip)
  sSkip)
def g_check_turns : List MP.D → Option Res := mkG (b_check_turns g_is_int) 1 1
def N_check_way : List Str := ["value"]
def b_check_way (g_is_int : List MP.D → Option Res) : S := (sSeq (sIf (eNot (eFn g_is_int (elCons (eVarS 0) (elCons (eC (.int 1)) (elCons (eC (.int 100000)) elNil))))) (sSeq (sRaise "InvalidWay")
  sSkip) sSkip)
  sSkip)
def g_check_way : List MP.D → Option Res := mkG (b_check_way g_is_int) 1 1
def N_gears_between : List Str := ["bike", "wheel", "least", "most", "way", "found", "ring", "cog", "unit"]
def b_gears_between (g_all_gears : List MP.D → Option Res) (g_check_bike : List MP.D → Option Res) (g_check_turns : List MP.D → Option Res) (g_check_way : List MP.D → Option Res) (g_check_wheel : List MP.D → Option Res) : S := (sSeq (sExpr (eFn g_check_bike (elCons (eVarS 0) elNil)))
  (sSeq (sExpr (eFn g_check_wheel (elCons (eVarS 1) elNil)))
  (sSeq (sExpr (eFn g_check_turns (elCons (eVarS 2) elNil)))
  (sSeq (sExpr (eFn g_check_turns (elCons (eVarS 3) elNil)))
  (sSeq (sExpr (eFn g_check_way (elCons (eVarS 4) elNil)))
  (sSeq (sOwn 5 (eFn mkL elNil))
  (sSeq (sFor (iSeq (eFn g_all_gears (elCons (eVarS 0) elNil))) (.tp [6, 7]) (sSeq (sAsg 8 (eOp2 gMul (eOp2 gIdx (eOp2 gIdx (eVar 0) (eC (.int 0))) (eVar 6)) (eVar 1)))
  (sSeq (sIf (eChain gLe gLe (eOp2 gMul (eVar 2) (eVar 8)) (eOp2 gMul (eVar 4) (eOp2 gIdx (eOp2 gIdx (eVar 0) (eC (.int 1))) (eVar 7))) (eOp2 gMul (eVar 3) (eVar 8))) (sSeq (sApp 5 (eFn mkT (elCons (eVarS 6) (elCons (eVarS 7) elNil))))
  sSkip) sSkip)
  sSkip)))
  (sSeq (sRetV 5)
  sSkip))))))))
def g_gears_between : List MP.D → Option Res := mkG (b_gears_between g_all_gears g_check_bike g_check_turns g_check_way g_check_wheel) 5 9
def N__law_badgear : List Str := ["script", "at", "bike", "bad"]
def b__law_badgear (g__law_drawn : List MP.D → Option Res) : S := (sSeq (sAsg 3 (eFn mkL (elCons (eC .none) (elCons (eFn mkT elNil) (elCons (eFn mkT (elCons (eC (.int 0)) elNil)) (elCons (eFn mkT (elCons (eFn (rB bLen) (elCons (eOp2 gIdx (eVar 2) (eC (.int 0))) elNil)) (elCons (eC (.int 0)) elNil))) (elCons (eFn mkT (elCons (eC (.int 0)) (elCons (eFn (rB bLen) (elCons (eOp2 gIdx (eVar 2) (eC (.int 1))) elNil)) elNil))) (elCons (eFn mkT (elCons (eOp1 gNeg (eC (.int 1))) (elCons (eC (.int 0)) elNil))) (elCons (eFn mkL (elCons (eC (.int 0)) (elCons (eC (.int 0)) elNil))) (elCons (eFn mkT (elCons (eC (.bool false)) (elCons (eC (.int 0)) elNil))) elNil))))))))))
  (sSeq (sAsg 3 (eOp2 gAdd (eVar 3) (eFn mkL (elCons (eFn mkT (elCons (eC (.int 0)) (elCons (eC (.str "0")) elNil))) elNil))))
  (sSeq (sRet (eOp2 gIdx (eVar 3) (eFn g__law_drawn (elCons (eVarS 0) (elCons (eVarS 1) (elCons (eC (.int 9)) elNil))))))
  sSkip)))
def g__law_badgear : List MP.D → Option Res := mkG (b__law_badgear g__law_drawn) 3 4
def N_check_stay : List Str := ["value"]
def b_check_stay (g_is_int : List MP.D → Option Res) : S := (sSeq (sIf (eNot (eFn g_is_int (elCons (eVarS 0) (elCons (eC (.int 20)) (elCons (eC (.int 60)) elNil))))) (sSeq (sRaise "InvalidStay")
  sSkip) sSkip)
  sSkip)
def g_check_stay : List MP.D → Option Res := mkG (b_check_stay g_is_int) 1 1
def N_twice_needed : List Str := ["bike", "gear", "stay"]
def b_twice_needed : S := (sSeq (sRet (eOp2 gAdd (eOp2 gAdd (eOp2 gMul (eC (.int 4)) (eVar 2)) (eOp2 gIdx (eOp2 gIdx (eVar 0) (eC (.int 0))) (eOp2 gIdx (eVar 1) (eC (.int 0))))) (eOp2 gIdx (eOp2 gIdx (eVar 0) (eC (.int 1))) (eOp2 gIdx (eVar 1) (eC (.int 1))))))
  sSkip)
def g_twice_needed : List MP.D → Option Res := mkG (b_twice_needed) 3 3
def N_check_links : List Str := ["value"]
def b_check_links (g_is_int : List MP.D → Option Res) : S := (sSeq (sIf (eOr (eNot (eFn g_is_int (elCons (eVarS 0) (elCons (eC (.int 2)) (elCons (eC (.int 200)) elNil))))) (eOp2 gEq (eOp2 gMod (eVar 0) (eC (.int 2))) (eC (.int 1)))) (sSeq (sRaise "InvalidLinks")
  sSkip) sSkip)
  sSkip)
def g_check_links : List MP.D → Option Res := mkG (b_check_links g_is_int) 1 1
def N_fitting : List Str := ["bike", "stay", "links", "most", "gear"]
def b_fitting (g_all_gears : List MP.D → Option Res) (g_check_bike : List MP.D → Option Res) (g_check_links : List MP.D → Option Res) (g_check_stay : List MP.D → Option Res) (g_is_int : List MP.D → Option Res) (g_twice_needed : List MP.D → Option Res) : S := (sSeq (sExpr (eFn g_check_bike (elCons (eVarS 0) elNil)))
  (sSeq (sExpr (eFn g_check_stay (elCons (eVarS 1) elNil)))
  (sSeq (sExpr (eFn g_check_links (elCons (eVarS 2) elNil)))
  (sSeq (sIf (eNot (eFn g_is_int (elCons (eVarS 3) (elCons (eC (.int 0)) (elCons (eC (.int 100)) elNil))))) (sSeq (sRaise "InvalidNumber")
  sSkip) sSkip)
  (sSeq (sRet (eComp [4] (.nm 4) (iSeq (eFn g_all_gears (elCons (eVarS 0) elNil))) (eChain gLe gLe (eC (.int 0)) (eOp2 gSub (eOp2 gMul (eC (.int 2)) (eVar 2)) (eFn g_twice_needed (elCons (eVarS 0) (elCons (eVarS 4) (elCons (eVarS 1) elNil))))) (eVar 3)) (eVarS 4)))
  sSkip)))))
def g_fitting : List MP.D → Option Res := mkG (b_fitting g_all_gears g_check_bike g_check_links g_check_stay g_is_int g_twice_needed) 4 5
def N_are_different : List Str := ["bike"]
def b_are_different (g_all_gears : List MP.D → Option Res) (g_check_bike : List MP.D → Option Res) (g_find_ladder : List MP.D → Option Res) : S := (sSeq (sExpr (eFn g_check_bike (elCons (eVarS 0) elNil)))
  (sSeq (sRet (eOp2 gEq (eFn (rB bLen) (elCons (eFn g_find_ladder (elCons (eVarS 0) elNil)) elNil)) (eFn (rB bLen) (elCons (eFn g_all_gears (elCons (eVarS 0) elNil)) elNil))))
  sSkip))
def g_are_different : List MP.D → Option Res := mkG (b_are_different g_all_gears g_check_bike g_find_ladder) 1 1
def N_find_steps : List Str := ["bike", "known", "one", "other"]
def b_find_steps (g_find_ladder : List MP.D → Option Res) (g_quotient : List MP.D → Option Res) : S := (sSeq (sAsg 1 (eFn g_find_ladder (elCons (eVarS 0) elNil)))
  (sSeq (sRet (eComp [2, 3] (.tp [2, 3]) (two (eVar 1) (eSlc (eVar 1) (pSome (eC (.int 1))) pNone) kZip) (eC (.bool true)) (eFn g_quotient (elCons (eVarS 3) (elCons (eVarS 2) elNil)))))
  sSkip))
def g_find_steps : List MP.D → Option Res := mkG (b_find_steps g_find_ladder g_quotient) 1 4
def N_extreme_step : List Str := ["bike", "sign", "found", "step"]
def b_extreme_step (g_check_bike : List MP.D → Option Res) (g_find_steps : List MP.D → Option Res) (g_order_of : List MP.D → Option Res) : S := (sSeq (sExpr (eFn g_check_bike (elCons (eVarS 0) elNil)))
  (sSeq (sAsg 2 (eC .none))
  (sSeq (sFor (iSeq (eFn g_find_steps (elCons (eVarS 0) elNil))) (.nm 3) (sSeq (sIf (eOr (eOp2 gIsN (eVar 2) (eC .none)) (eOp2 gEq (eFn g_order_of (elCons (eVarS 3) (elCons (eVarS 2) elNil))) (eVar 1))) (sSeq (sAsg 2 (eVarS 3))
  sSkip) sSkip)
  sSkip))
  (sSeq (sRetV 2)
  sSkip))))
def g_extreme_step : List MP.D → Option Res := mkG (b_extreme_step g_check_bike g_find_steps g_order_of) 2 4
def N_widest_step : List Str := ["bike"]
def b_widest_step (g_extreme_step : List MP.D → Option Res) : S := (sSeq (sRet (eFn g_extreme_step (elCons (eVarS 0) (elCons (eC (.int 1)) elNil))))
  sSkip)
def g_widest_step : List MP.D → Option Res := mkG (b_widest_step g_extreme_step) 1 1
def N_narrowest_step : List Str := ["bike"]
def b_narrowest_step (g_extreme_step : List MP.D → Option Res) : S := (sSeq (sRet (eFn g_extreme_step (elCons (eVarS 0) (elCons (eOp1 gNeg (eC (.int 1))) elNil))))
  sSkip)
def g_narrowest_step : List MP.D → Option Res := mkG (b_narrowest_step g_extreme_step) 1 1
def N_near_pairs : List Str := ["bike", "percent", "known", "pair"]
def b_near_pairs (g_check_bike : List MP.D → Option Res) (g_find_ladder : List MP.D → Option Res) (g_is_int : List MP.D → Option Res) (g_order_of : List MP.D → Option Res) (g_quotient : List MP.D → Option Res) : S := (sSeq (sExpr (eFn g_check_bike (elCons (eVarS 0) elNil)))
  (sSeq (sIf (eNot (eFn g_is_int (elCons (eVarS 1) (elCons (eC (.int 0)) (elCons (eC (.int 100)) elNil))))) (sSeq (sRaise "InvalidPercent")
  sSkip) sSkip)
  (sSeq (sAsg 2 (eFn g_find_ladder (elCons (eVarS 0) elNil)))
  (sSeq (sRet (eComp [3] (.nm 3) (two (eVar 2) (eSlc (eVar 2) (pSome (eC (.int 1))) pNone) kZipL) (eOp2 gLe (eFn g_order_of (elCons (eFn g_quotient (elCons (eOp2 gIdx (eVar 3) (eC (.int 1))) (elCons (eOp2 gIdx (eVar 3) (eC (.int 0))) elNil))) (elCons (eFn mkT (elCons (eOp2 gAdd (eC (.int 100)) (eVar 1)) (elCons (eC (.int 100)) elNil))) elNil))) (eC (.int 0))) (eVarS 3)))
  sSkip))))
def g_near_pairs : List MP.D → Option Res := mkG (b_near_pairs g_check_bike g_find_ladder g_is_int g_order_of g_quotient) 2 4
def N_find_climb : List Str := ["bike", "rows", "fraction", "more", "gear", "ways", "cost", "way"]
def b_find_climb (g_count_shifts : List MP.D → Option Res) (g_find_ladder : List MP.D → Option Res) (g_find_with : List MP.D → Option Res) : S := (sSeq (sAsg 1 (eFn mkL (elCons (eFn mkT (elCons (eC (.int 0)) (elCons (eFn mkL elNil) elNil))) elNil)))
  (sSeq (sFor (iSeq (eOp1 gRev (eFn g_find_ladder (elCons (eVarS 0) elNil)))) (.nm 2) (sSeq (sOwn 3 (eFn mkL elNil))
  (sSeq (sFor (iSeq (eFn g_find_with (elCons (eVarS 0) (elCons (eVarS 2) elNil)))) (.nm 4) (sSeq (sAsg 5 (eComp [6, 7] (.tp [6, 7]) (iSeq (eVar 1)) (eC (.bool true)) (eFn mkT (elCons (eOp2 gAdd (eIte (eOp2 gNe (eVar 7) (eFn mkL elNil)) (eFn g_count_shifts (elCons (eVarS 4) (elCons (eOp2 gIdx (eVar 7) (eC (.int 0))) elNil))) (eC (.int 0))) (eVar 6)) (elCons (eOp2 gAdd (eFn mkL (elCons (eVarS 4) elNil)) (eVar 7)) elNil)))))
  (sSeq (sApp 3 (eFn (rB bMinD) (elCons (eVar 5) elNil)))
  sSkip)))
  (sSeq (sFrz 3 (sAsg 1 (eVarS 3)))
  sSkip))))
  (sSeq (sRet (eFn (rB bMinD) (elCons (eVar 1) elNil)))
  sSkip)))
def g_find_climb : List MP.D → Option Res := mkG (b_find_climb g_count_shifts g_find_ladder g_find_with) 1 8
def N_fewest_shifts : List Str := ["bike"]
def b_fewest_shifts (g_check_bike : List MP.D → Option Res) (g_find_climb : List MP.D → Option Res) : S := (sSeq (sExpr (eFn g_check_bike (elCons (eVarS 0) elNil)))
  (sSeq (sRet (eOp2 gIdx (eFn g_find_climb (elCons (eVarS 0) elNil)) (eC (.int 0))))
  sSkip))
def g_fewest_shifts : List MP.D → Option Res := mkG (b_fewest_shifts g_check_bike g_find_climb) 1 1
def N_best_climb : List Str := ["bike"]
def b_best_climb (g_check_bike : List MP.D → Option Res) (g_find_climb : List MP.D → Option Res) : S := (sSeq (sExpr (eFn g_check_bike (elCons (eVarS 0) elNil)))
  (sSeq (sRet (eOp2 gIdx (eFn g_find_climb (elCons (eVarS 0) elNil)) (eC (.int 1))))
  sSkip))
def g_best_climb : List MP.D → Option Res := mkG (b_best_climb g_check_bike g_find_climb) 1 1
def N_check_width : List Str := ["bike", "width"]
def b_check_width (g_check_bike : List MP.D → Option Res) (g_is_int : List MP.D → Option Res) : S := (sSeq (sExpr (eFn g_check_bike (elCons (eVarS 0) elNil)))
  (sSeq (sIf (eNot (eFn g_is_int (elCons (eVarS 1) (elCons (eC (.int 0)) (elCons (eC (.int 8)) elNil))))) (sSeq (sRaise "InvalidWidth")
  sSkip) sSkip)
  sSkip))
def g_check_width : List MP.D → Option Res := mkG (b_check_width g_check_bike g_is_int) 2 2
def N_crosses : List Str := ["bike", "width", "gear", "rings", "cogs"]
def b_crosses : S := (sSeq (sPar [3, 4] (mCons kDat (eFn (rB bLen) (elCons (eOp2 gIdx (eVar 0) (eC (.int 0))) elNil)) (mCons kDat (eFn (rB bLen) (elCons (eOp2 gIdx (eVar 0) (eC (.int 1))) elNil)) mNil)))
  (sSeq (sIf (eOp2 gLt (eVar 3) (eC (.int 2))) (sSeq (sRet (eC (.bool false)))
  sSkip) sSkip)
  (sSeq (sRet (eOr (eAnd (eOp2 gEq (eOp2 gIdx (eVar 2) (eC (.int 0))) (eC (.int 0))) (eOp2 gLt (eOp2 gIdx (eVar 2) (eC (.int 1))) (eVar 1))) (eAnd (eOp2 gEq (eOp2 gIdx (eVar 2) (eC (.int 0))) (eOp2 gSub (eVar 3) (eC (.int 1)))) (eOp2 gGe (eOp2 gIdx (eVar 2) (eC (.int 1))) (eOp2 gSub (eVar 4) (eVar 1))))))
  sSkip)))
def g_crosses : List MP.D → Option Res := mkG (b_crosses) 3 5
def N_is_crossed : List Str := ["bike", "width", "gear"]
def b_is_crossed (g_check_gear : List MP.D → Option Res) (g_check_width : List MP.D → Option Res) (g_crosses : List MP.D → Option Res) : S := (sSeq (sExpr (eFn g_check_width (elCons (eVarS 0) (elCons (eVarS 1) elNil))))
  (sSeq (sExpr (eFn g_check_gear (elCons (eVarS 0) (elCons (eVarS 2) elNil))))
  (sSeq (sRet (eFn g_crosses (elCons (eVarS 0) (elCons (eVarS 1) (elCons (eVarS 2) elNil)))))
  sSkip)))
def g_is_crossed : List MP.D → Option Res := mkG (b_is_crossed g_check_gear g_check_width g_crosses) 3 3
def N_find_straight : List Str := ["bike", "width", "gear"]
def b_find_straight (g_crosses : List MP.D → Option Res) (g_find_gears : List MP.D → Option Res) : S := (sSeq (sRet (eComp [2] (.nm 2) (iSeq (eFn g_find_gears (elCons (eVarS 0) elNil))) (eNot (eFn g_crosses (elCons (eVarS 0) (elCons (eVarS 1) (elCons (eVarS 2) elNil))))) (eVarS 2)))
  sSkip)
def g_find_straight : List MP.D → Option Res := mkG (b_find_straight g_crosses g_find_gears) 2 3
def N_straight_gears : List Str := ["bike", "width"]
def b_straight_gears (g_check_width : List MP.D → Option Res) (g_find_straight : List MP.D → Option Res) : S := (sSeq (sExpr (eFn g_check_width (elCons (eVarS 0) (elCons (eVarS 1) elNil))))
  (sSeq (sRet (eFn g_find_straight (elCons (eVarS 0) (elCons (eVarS 1) elNil))))
  sSkip))
def g_straight_gears : List MP.D → Option Res := mkG (b_straight_gears g_check_width g_find_straight) 2 2
def N_find_lost : List Str := ["bike", "width", "kept", "gear", "fraction"]
def b_find_lost (g_find_ladder : List MP.D → Option Res) (g_find_ratio : List MP.D → Option Res) (g_find_straight : List MP.D → Option Res) : S := (sSeq (sAsg 2 (eComp [3] (.nm 3) (iSeq (eFn g_find_straight (elCons (eVarS 0) (elCons (eVarS 1) elNil)))) (eC (.bool true)) (eFn g_find_ratio (elCons (eVarS 0) (elCons (eVarS 3) elNil)))))
  (sSeq (sRet (eComp [4] (.nm 4) (iSeq (eFn g_find_ladder (elCons (eVarS 0) elNil))) (eOp2 gNotInL (eVar 4) (eVar 2)) (eVarS 4)))
  sSkip))
def g_find_lost : List MP.D → Option Res := mkG (b_find_lost g_find_ladder g_find_ratio g_find_straight) 2 5
def N_lost_ratios : List Str := ["bike", "width"]
def b_lost_ratios (g_check_width : List MP.D → Option Res) (g_find_lost : List MP.D → Option Res) : S := (sSeq (sExpr (eFn g_check_width (elCons (eVarS 0) (elCons (eVarS 1) elNil))))
  (sSeq (sRet (eFn g_find_lost (elCons (eVarS 0) (elCons (eVarS 1) elNil))))
  sSkip))
def g_lost_ratios : List MP.D → Option Res := mkG (b_lost_ratios g_check_width g_find_lost) 2 2
def N_widest_free : List Str := ["bike", "width"]
def b_widest_free (g_check_bike : List MP.D → Option Res) (g_find_lost : List MP.D → Option Res) : S := (sSeq (sExpr (eFn g_check_bike (elCons (eVarS 0) elNil)))
  (sSeq (sRet (eOp2 gIdx (eComp [1] (.nm 1) (iRng1 (eOp2 gAdd (eC (.int 8)) (eC (.int 1)))) (eOp2 gEq (eFn g_find_lost (elCons (eVarS 0) (elCons (eVarS 1) elNil))) (eFn mkL elNil)) (eVarS 1)) (eOp1 gNeg (eC (.int 1)))))
  sSkip))
def g_widest_free : List MP.D → Option Res := mkG (b_widest_free g_check_bike g_find_lost) 1 2
def N_check_two : List Str := ["one", "other"]
def b_check_two (g_check_bike : List MP.D → Option Res) : S := (sSeq (sExpr (eFn g_check_bike (elCons (eVarS 0) elNil)))
  (sSeq (sExpr (eFn g_check_bike (elCons (eVarS 1) elNil)))
  sSkip))
def g_check_two : List MP.D → Option Res := mkG (b_check_two g_check_bike) 2 2
def N_are_alike : List Str := ["one", "other"]
def b_are_alike (g_check_two : List MP.D → Option Res) (g_find_ladder : List MP.D → Option Res) : S := (sSeq (sExpr (eFn g_check_two (elCons (eVarS 0) (elCons (eVarS 1) elNil))))
  (sSeq (sRet (eOp2 gEq (eFn g_find_ladder (elCons (eVarS 0) elNil)) (eFn g_find_ladder (elCons (eVarS 1) elNil))))
  sSkip))
def g_are_alike : List MP.D → Option Res := mkG (b_are_alike g_check_two g_find_ladder) 2 2
def N_missing : List Str := ["one", "other", "known", "fraction"]
def b_missing (g_check_two : List MP.D → Option Res) (g_find_ladder : List MP.D → Option Res) : S := (sSeq (sExpr (eFn g_check_two (elCons (eVarS 0) (elCons (eVarS 1) elNil))))
  (sSeq (sAsg 2 (eFn g_find_ladder (elCons (eVarS 0) elNil)))
  (sSeq (sRet (eComp [3] (.nm 3) (iSeq (eFn g_find_ladder (elCons (eVarS 1) elNil))) (eOp2 gNotInL (eVar 3) (eVar 2)) (eVarS 3)))
  sSkip)))
def g_missing : List MP.D → Option Res := mkG (b_missing g_check_two g_find_ladder) 2 4
def N_with_teeth : List Str := ["bike", "number", "teeth"]
def b_with_teeth : S := (sSeq (sRet (eFn mkT (elCons (eFn (rB bTuple) (elCons (eComp [2] (.nm 2) (iSeq (eOp2 gIdx (eVar 0) (eC (.int 0)))) (eC (.bool true)) (eOp2 gMul (eVar 2) (eVar 1))) elNil)) (elCons (eFn (rB bTuple) (elCons (eComp [2] (.nm 2) (iSeq (eOp2 gIdx (eVar 0) (eC (.int 1)))) (eC (.bool true)) (eOp2 gMul (eVar 2) (eVar 1))) elNil)) elNil))))
  sSkip)
def g_with_teeth : List MP.D → Option Res := mkG (b_with_teeth) 2 3
def N_multiplied : List Str := ["bike", "number", "found"]
def b_multiplied (g_check_bike : List MP.D → Option Res) (g_is_bike : List MP.D → Option Res) (g_is_int : List MP.D → Option Res) (g_with_teeth : List MP.D → Option Res) : S := (sSeq (sExpr (eFn g_check_bike (elCons (eVarS 0) elNil)))
  (sSeq (sIf (eNot (eFn g_is_int (elCons (eVarS 1) (elCons (eC (.int 1)) (elCons (eC (.int 5)) elNil))))) (sSeq (sRaise "InvalidNumber")
  sSkip) sSkip)
  (sSeq (sAsg 2 (eFn g_with_teeth (elCons (eVarS 0) (elCons (eVarS 1) elNil))))
  (sSeq (sIf (eNot (eFn g_is_bike (elCons (eVarS 2) elNil))) (sSeq (sRaise "TooLarge")
  sSkip) sSkip)
  (sSeq (sRetV 2)
  sSkip)))))
def g_multiplied : List MP.D → Option Res := mkG (b_multiplied g_check_bike g_is_bike g_is_int g_with_teeth) 2 3
def N_divided : List Str := ["bike", "number", "teeth"]
def b_divided : S := (sSeq (sRet (eFn mkT (elCons (eFn (rB bTuple) (elCons (eComp [2] (.nm 2) (iSeq (eOp2 gIdx (eVar 0) (eC (.int 0)))) (eC (.bool true)) (eOp2 gFdiv (eVar 2) (eVar 1))) elNil)) (elCons (eFn (rB bTuple) (elCons (eComp [2] (.nm 2) (iSeq (eOp2 gIdx (eVar 0) (eC (.int 1)))) (eC (.bool true)) (eOp2 gFdiv (eVar 2) (eVar 1))) elNil)) elNil))))
  sSkip)
def g_divided : List MP.D → Option Res := mkG (b_divided) 2 3
def N_smallest : List Str := ["bike", "common", "teeth", "parts", "part"]
def b_smallest (g_check_bike : List MP.D → Option Res) (g_divided : List MP.D → Option Res) (g_divisor : List MP.D → Option Res) (g_is_bike : List MP.D → Option Res) : S := (sSeq (sExpr (eFn g_check_bike (elCons (eVarS 0) elNil)))
  (sSeq (sAsg 1 (eC (.int 0)))
  (sSeq (sFor (iSeq (eOp2 gAdd (eOp2 gIdx (eVar 0) (eC (.int 0))) (eOp2 gIdx (eVar 0) (eC (.int 1))))) (.nm 2) (sSeq (sAsg 1 (eFn g_divisor (elCons (eVarS 2) (elCons (eVarS 1) elNil))))
  sSkip))
  (sSeq (sAsg 3 (eComp [4] (.nm 4) (two (eC (.int 1)) (eOp2 gAdd (eVar 1) (eC (.int 1))) kRng) (eAnd (eOp2 gEq (eOp2 gMod (eVar 1) (eVar 4)) (eC (.int 0))) (eFn g_is_bike (elCons (eFn g_divided (elCons (eVarS 0) (elCons (eVarS 4) elNil))) elNil))) (eVarS 4)))
  (sSeq (sRet (eFn g_divided (elCons (eVarS 0) (elCons (eOp2 gIdx (eVar 3) (eOp1 gNeg (eC (.int 1)))) elNil))))
  sSkip)))))
def g_smallest : List MP.D → Option Res := mkG (b_smallest g_check_bike g_divided g_divisor g_is_bike) 1 5
def N_ranges : List Str := ["bike", "known"]
def b_ranges (g_check_bike : List MP.D → Option Res) (g_find_ladder : List MP.D → Option Res) : S := (sSeq (sExpr (eFn g_check_bike (elCons (eVarS 0) elNil)))
  (sSeq (sAsg 1 (eFn g_find_ladder (elCons (eVarS 0) elNil)))
  (sSeq (sRet (eFn mkT (elCons (eOp2 gIdx (eVar 1) (eC (.int 0))) (elCons (eOp2 gIdx (eVar 1) (eOp1 gNeg (eC (.int 1)))) elNil))))
  sSkip)))
def g_ranges : List MP.D → Option Res := mkG (b_ranges g_check_bike g_find_ladder) 1 2
def N_spread : List Str := ["bike", "known"]
def b_spread (g_check_bike : List MP.D → Option Res) (g_find_ladder : List MP.D → Option Res) (g_quotient : List MP.D → Option Res) : S := (sSeq (sExpr (eFn g_check_bike (elCons (eVarS 0) elNil)))
  (sSeq (sAsg 1 (eFn g_find_ladder (elCons (eVarS 0) elNil)))
  (sSeq (sRet (eFn g_quotient (elCons (eOp2 gIdx (eVar 1) (eOp1 gNeg (eC (.int 1)))) (elCons (eOp2 gIdx (eVar 1) (eC (.int 0))) elNil))))
  sSkip)))
def g_spread : List MP.D → Option Res := mkG (b_spread g_check_bike g_find_ladder g_quotient) 1 2
def N_without : List Str := ["teeth", "index"]
def b_without : S := (sSeq (sRet (eOp2 gAdd (eSlc (eVar 0) pNone (pSome (eVar 1))) (eSlc (eVar 0) (pSome (eOp2 gAdd (eVar 1) (eC (.int 1)))) pNone)))
  sSkip)
def g_without : List MP.D → Option Res := mkG (b_without) 2 2
def N_needless_cogs : List Str := ["bike", "rings", "cogs", "known", "index"]
def b_needless_cogs (g_check_bike : List MP.D → Option Res) (g_find_ladder : List MP.D → Option Res) (g_without : List MP.D → Option Res) : S := (sSeq (sExpr (eFn g_check_bike (elCons (eVarS 0) elNil)))
  (sSeq (sUnp (.tp [1, 2]) (eVarS 0))
  (sSeq (sAsg 3 (eFn g_find_ladder (elCons (eVarS 0) elNil)))
  (sSeq (sIf (eOp2 gEq (eFn (rB bLen) (elCons (eVar 2) elNil)) (eC (.int 1))) (sSeq (sRet (eFn mkL elNil))
  sSkip) sSkip)
  (sSeq (sRet (eComp [4] (.nm 4) (iRng1 (eFn (rB bLen) (elCons (eVar 2) elNil))) (eOp2 gEq (eFn g_find_ladder (elCons (eFn mkT (elCons (eVarS 1) (elCons (eFn g_without (elCons (eVarS 2) (elCons (eVarS 4) elNil))) elNil))) elNil)) (eVar 3)) (eVarS 4)))
  sSkip)))))
def g_needless_cogs : List MP.D → Option Res := mkG (b_needless_cogs g_check_bike g_find_ladder g_without) 1 5
def N_needless_rings : List Str := ["bike", "rings", "cogs", "known", "index"]
def b_needless_rings (g_check_bike : List MP.D → Option Res) (g_find_ladder : List MP.D → Option Res) (g_without : List MP.D → Option Res) : S := (sSeq (sExpr (eFn g_check_bike (elCons (eVarS 0) elNil)))
  (sSeq (sUnp (.tp [1, 2]) (eVarS 0))
  (sSeq (sAsg 3 (eFn g_find_ladder (elCons (eVarS 0) elNil)))
  (sSeq (sIf (eOp2 gEq (eFn (rB bLen) (elCons (eVar 1) elNil)) (eC (.int 1))) (sSeq (sRet (eFn mkL elNil))
  sSkip) sSkip)
  (sSeq (sRet (eComp [4] (.nm 4) (iRng1 (eFn (rB bLen) (elCons (eVar 1) elNil))) (eOp2 gEq (eFn g_find_ladder (elCons (eFn mkT (elCons (eFn g_without (elCons (eVarS 1) (elCons (eVarS 4) elNil))) (elCons (eVarS 2) elNil))) elNil)) (eVar 3)) (eVarS 4)))
  sSkip)))))
def g_needless_rings : List MP.D → Option Res := mkG (b_needless_rings g_check_bike g_find_ladder g_without) 1 5
def N_is_hopeful : List Str := ["row", "useful", "left", "chosen", "still", "later", "teeth", "one"]
def b_is_hopeful : S := (sSeq (sUnp (.tp [3, 4]) (eVarS 0))
  (sSeq (sAsg 5 (eComp [6] (.nm 6) (iKeysD (eVarS 1)) (eOp2 gGt (eVar 6) (eOp2 gIdx (eVar 3) (eOp1 gNeg (eC (.int 1))))) (eVarS 6)))
  (sSeq (sRet (eOr (eOp2 gEq (eFn (rB bLen) (elCons (eVar 4) elNil)) (eC (.int 0))) (eAnd (eOp2 gGt (eVar 2) (eC (.int 0))) (eFn (rB bAll) (elCons (eComp [7] (.nm 7) (iSeq (eVar 4)) (eC (.bool true)) (eFn (rB bAny) (elCons (eComp [6] (.nm 6) (iSeq (eVar 5)) (eC (.bool true)) (eOp2 gInL (eVar 7) (eOp2 gDGet (eVar 1) (eVar 6)))) elNil))) elNil)))))
  sSkip)))
def g_is_hopeful : List MP.D → Option Res := mkG (b_is_hopeful) 3 8
def N_first_choice : List Str := ["left", "useful", "most", "rows", "size", "chosen", "still", "more", "teeth", "rest", "one", "row"]
def b_first_choice (g_is_hopeful : List MP.D → Option Res) : S := (sSeq (sAsg 3 (eFn mkL (elCons (eFn mkT (elCons (eFn mkT elNil) (elCons (eVarS 0) elNil))) elNil)))
  (sSeq (sFor (iRng1 (eOp2 gAdd (eVar 2) (eC (.int 1)))) (.nm 4) (sSeq (sFor (iSeq (eVarS 3)) (.tp [5, 6]) (sSeq (sIf (eOp2 gEq (eVar 6) (eFn mkL elNil)) (sSeq (sRetV 5)
  sSkip) sSkip)
  sSkip))
  (sSeq (sOwn 7 (eFn mkL elNil))
  (sSeq (sFor (iSeq (eVarS 3)) (.tp [5, 6]) (sSeq (sFor (iSeq (eFn (rB bSortK) (elCons (eVar 1) elNil))) (.nm 8) (sSeq (sAsg 9 (eComp [10] (.nm 10) (iSeq (eVar 6)) (eOp2 gNotInL (eVar 10) (eOp2 gDGet (eVar 1) (eVar 8))) (eVarS 10)))
  (sSeq (sIf (eAnd (eOp2 gNe (eVar 9) (eVar 6)) (eOr (eOp2 gEq (eVar 5) (eFn mkT elNil)) (eOp2 gGt (eVar 8) (eOp2 gIdx (eVar 5) (eOp1 gNeg (eC (.int 1))))))) (sSeq (sApp 7 (eFn mkT (elCons (eOp2 gAdd (eVar 5) (eFn mkT (elCons (eVarS 8) elNil))) (elCons (eVarS 9) elNil))))
  sSkip) sSkip)
  sSkip)))
  sSkip))
  (sSeq (sAsg 3 (eComp [11] (.nm 11) (iSeq (eVar 7)) (eFn g_is_hopeful (elCons (eVarS 11) (elCons (eVarS 1) (elCons (eOp2 gSub (eOp2 gSub (eVar 2) (eVar 4)) (eC (.int 1))) elNil)))) (eVarS 11)))
  sSkip)))))
  (sSeq (sRet (eC .none))
  sSkip)))
def g_first_choice : List MP.D → Option Res := mkG (b_first_choice g_is_hopeful) 3 12
def N_find_cogs : List Str := ["rings", "wanted", "useful", "teeth", "good", "one", "ring"]
def b_find_cogs (g_are_rings : List MP.D → Option Res) (g_check_wanted : List MP.D → Option Res) (g_first_choice : List MP.D → Option Res) (g_reduced : List MP.D → Option Res) : S := (sSeq (sIf (eNot (eFn g_are_rings (elCons (eVarS 0) elNil))) (sSeq (sRaise "InvalidRings")
  sSkip) sSkip)
  (sSeq (sExpr (eFn g_check_wanted (elCons (eVarS 1) elNil)))
  (sSeq (sDNew 2)
  (sSeq (sFor (two (eC (.int 8)) (eOp2 gAdd (eC (.int 50)) (eC (.int 1))) kRng) (.nm 3) (sSeq (sAsg 4 (eComp [5] (.nm 5) (iSeq (eFn (rB bUSortP) (elCons (eVar 1) elNil))) (eOp2 gInL (eVar 5) (eComp [6] (.nm 6) (iSeq (eVar 0)) (eC (.bool true)) (eFn g_reduced (elCons (eVarS 6) (elCons (eVarS 3) elNil))))) (eVarS 5)))
  (sSeq (sIf (eOp2 gNe (eVar 4) (eFn mkL elNil)) (sSeq (sDPutK 2 (eVarS 3) (eVarS 4))
  sSkip) sSkip)
  sSkip)))
  (sSeq (sLck 2 (sRet (eFn g_first_choice (elCons (eFn (rB bUSortP) (elCons (eVar 1) elNil)) (elCons (eVarS 2) (elCons (eC (.int 8)) elNil))))))
  sSkip)))))
def g_find_cogs : List MP.D → Option Res := mkG (b_find_cogs g_are_rings g_check_wanted g_first_choice g_reduced) 2 7
def N_fewest_cogs : List Str := ["rings", "wanted", "found"]
def b_fewest_cogs (g_find_cogs : List MP.D → Option Res) : S := (sSeq (sAsg 2 (eFn g_find_cogs (elCons (eVarS 0) (elCons (eVarS 1) elNil))))
  (sSeq (sRet (eIte (eOp2 gIsNotN (eVar 2) (eC .none)) (eFn (rB bLen) (elCons (eVar 2) elNil)) (eC .none)))
  sSkip))
def g_fewest_cogs : List MP.D → Option Res := mkG (b_fewest_cogs g_find_cogs) 2 3
def N_cogs_for : List Str := ["rings", "wanted"]
def b_cogs_for (g_find_cogs : List MP.D → Option Res) : S := (sSeq (sRet (eFn g_find_cogs (elCons (eVarS 0) (elCons (eVarS 1) elNil))))
  sSkip)
def g_cogs_for : List MP.D → Option Res := mkG (b_cogs_for g_find_cogs) 2 2
def N_rings_for : List Str := ["wanted", "cogs", "useful", "teeth", "good", "one", "cog"]
def b_rings_for (g_are_cogs : List MP.D → Option Res) (g_check_wanted : List MP.D → Option Res) (g_first_choice : List MP.D → Option Res) (g_reduced : List MP.D → Option Res) : S := (sSeq (sExpr (eFn g_check_wanted (elCons (eVarS 0) elNil)))
  (sSeq (sIf (eNot (eFn g_are_cogs (elCons (eVarS 1) elNil))) (sSeq (sRaise "InvalidCogs")
  sSkip) sSkip)
  (sSeq (sDNew 2)
  (sSeq (sFor (two (eC (.int 10)) (eOp2 gAdd (eC (.int 60)) (eC (.int 1))) kRng) (.nm 3) (sSeq (sAsg 4 (eComp [5] (.nm 5) (iSeq (eFn (rB bUSortP) (elCons (eVar 0) elNil))) (eOp2 gInL (eVar 5) (eComp [6] (.nm 6) (iSeq (eVar 1)) (eC (.bool true)) (eFn g_reduced (elCons (eVarS 3) (elCons (eVarS 6) elNil))))) (eVarS 5)))
  (sSeq (sIf (eOp2 gNe (eVar 4) (eFn mkL elNil)) (sSeq (sDPutK 2 (eVarS 3) (eVarS 4))
  sSkip) sSkip)
  sSkip)))
  (sSeq (sLck 2 (sRet (eFn g_first_choice (elCons (eFn (rB bUSortP) (elCons (eVar 0) elNil)) (elCons (eVarS 2) (elCons (eC (.int 3)) elNil))))))
  sSkip)))))
def g_rings_for : List MP.D → Option Res := mkG (b_rings_for g_are_cogs g_check_wanted g_first_choice g_reduced) 2 7
def N_speed : List Str := ["bike", "gear", "wheel", "turns"]
def b_speed (g_check_bike : List MP.D → Option Res) (g_check_gear : List MP.D → Option Res) (g_check_turns : List MP.D → Option Res) (g_check_wheel : List MP.D → Option Res) (g_reduced : List MP.D → Option Res) : S := (sSeq (sExpr (eFn g_check_bike (elCons (eVarS 0) elNil)))
  (sSeq (sExpr (eFn g_check_gear (elCons (eVarS 0) (elCons (eVarS 1) elNil))))
  (sSeq (sExpr (eFn g_check_wheel (elCons (eVarS 2) elNil)))
  (sSeq (sExpr (eFn g_check_turns (elCons (eVarS 3) elNil)))
  (sSeq (sRet (eFn g_reduced (elCons (eOp2 gMul (eOp2 gMul (eOp2 gIdx (eOp2 gIdx (eVar 0) (eC (.int 0))) (eOp2 gIdx (eVar 1) (eC (.int 0)))) (eVar 2)) (eVar 3)) (elCons (eOp2 gIdx (eOp2 gIdx (eVar 0) (eC (.int 1))) (eOp2 gIdx (eVar 1) (eC (.int 1)))) elNil))))
  sSkip)))))
def g_speed : List MP.D → Option Res := mkG (b_speed g_check_bike g_check_gear g_check_turns g_check_wheel g_reduced) 4 4
def N_turns_for : List Str := ["bike", "gear", "wheel", "way"]
def b_turns_for (g_check_bike : List MP.D → Option Res) (g_check_gear : List MP.D → Option Res) (g_check_way : List MP.D → Option Res) (g_check_wheel : List MP.D → Option Res) (g_reduced : List MP.D → Option Res) : S := (sSeq (sExpr (eFn g_check_bike (elCons (eVarS 0) elNil)))
  (sSeq (sExpr (eFn g_check_gear (elCons (eVarS 0) (elCons (eVarS 1) elNil))))
  (sSeq (sExpr (eFn g_check_wheel (elCons (eVarS 2) elNil)))
  (sSeq (sExpr (eFn g_check_way (elCons (eVarS 3) elNil)))
  (sSeq (sRet (eFn g_reduced (elCons (eOp2 gMul (eVar 3) (eOp2 gIdx (eOp2 gIdx (eVar 0) (eC (.int 1))) (eOp2 gIdx (eVar 1) (eC (.int 1))))) (elCons (eOp2 gMul (eOp2 gIdx (eOp2 gIdx (eVar 0) (eC (.int 0))) (eOp2 gIdx (eVar 1) (eC (.int 0)))) (eVar 2)) elNil))))
  sSkip)))))
def g_turns_for : List MP.D → Option Res := mkG (b_turns_for g_check_bike g_check_gear g_check_way g_check_wheel g_reduced) 4 4
def N_gear_for : List Str := ["bike", "wheel", "turns", "way", "unit", "found", "cog", "ring"]
def b_gear_for (g_all_gears : List MP.D → Option Res) (g_check_bike : List MP.D → Option Res) (g_check_turns : List MP.D → Option Res) (g_check_way : List MP.D → Option Res) (g_check_wheel : List MP.D → Option Res) : S := (sSeq (sExpr (eFn g_check_bike (elCons (eVarS 0) elNil)))
  (sSeq (sExpr (eFn g_check_wheel (elCons (eVarS 1) elNil)))
  (sSeq (sExpr (eFn g_check_turns (elCons (eVarS 2) elNil)))
  (sSeq (sExpr (eFn g_check_way (elCons (eVarS 3) elNil)))
  (sSeq (sPar [4, 5] (mCons kDat (eC (.int 1)) (mCons kOwn (eFn mkL elNil) mNil)))
  (sSeq (sFor (iSeq (eOp2 gIdx (eVar 0) (eC (.int 1)))) (.nm 6) (sSeq (sAsg 4 (eOp2 gMul (eVar 4) (eVar 6)))
  sSkip))
  (sSeq (sFor (iSeq (eFn g_all_gears (elCons (eVarS 0) elNil))) (.tp [7, 6]) (sSeq (sApp 5 (eFn mkT (elCons (eOp2 gMul (eFn (rB bAbs) (elCons (eOp2 gSub (eOp2 gMul (eOp2 gMul (eOp2 gIdx (eOp2 gIdx (eVar 0) (eC (.int 0))) (eVar 7)) (eVar 1)) (eVar 2)) (eOp2 gMul (eVar 3) (eOp2 gIdx (eOp2 gIdx (eVar 0) (eC (.int 1))) (eVar 6)))) elNil)) (eOp2 gFdiv (eVar 4) (eOp2 gIdx (eOp2 gIdx (eVar 0) (eC (.int 1))) (eVar 6)))) (elCons (eFn mkT (elCons (eVarS 7) (elCons (eVarS 6) elNil))) elNil))))
  sSkip))
  (sSeq (sRet (eOp2 gIdx (eFn (rB bMinD) (elCons (eVar 5) elNil)) (eC (.int 1))))
  sSkip))))))))
def g_gear_for : List MP.D → Option Res := mkG (b_gear_for g_all_gears g_check_bike g_check_turns g_check_way g_check_wheel) 4 8
def N_best_plan : List Str := ["bike", "wanted", "percent", "found"]
def b_best_plan (g_find_plan : List MP.D → Option Res) : S := (sSeq (sAsg 3 (eFn g_find_plan (elCons (eVarS 0) (elCons (eVarS 1) (elCons (eVarS 2) elNil)))))
  (sSeq (sRet (eIte (eOp2 gIsNotN (eVar 3) (eC .none)) (eFn (rB bList) (elCons (eOp2 gIdx (eVar 3) (eC (.int 1))) elNil)) (eC .none)))
  sSkip))
def g_best_plan : List MP.D → Option Res := mkG (b_best_plan g_find_plan) 3 4
def N_percent_needed : List Str := ["bike", "wanted", "percent", "gears"]
def b_percent_needed (g_check_bike : List MP.D → Option Res) (g_check_wanted : List MP.D → Option Res) (g_find_suiting : List MP.D → Option Res) : S := (sSeq (sExpr (eFn g_check_bike (elCons (eVarS 0) elNil)))
  (sSeq (sExpr (eFn g_check_wanted (elCons (eVarS 1) elNil)))
  (sSeq (sFor (iRng1 (eOp2 gAdd (eC (.int 100)) (eC (.int 1)))) (.nm 2) (sSeq (sIf (eFn (rB bAll) (elCons (eComp [3] (.nm 3) (iSeq (eFn g_find_suiting (elCons (eVarS 0) (elCons (eVarS 1) (elCons (eVarS 2) elNil))))) (eC (.bool true)) (eOp2 gNe (eVar 3) (eFn mkL elNil))) elNil)) (sSeq (sRetV 2)
  sSkip) sSkip)
  sSkip))
  (sSeq (sRet (eC .none))
  sSkip))))
def g_percent_needed : List MP.D → Option Res := mkG (b_percent_needed g_check_bike g_check_wanted g_find_suiting) 2 4
def N_even_links : List Str := ["twice"]
def b_even_links : S := (sSeq (sRet (eOp2 gMul (eOp2 gFdiv (eOp2 gAdd (eVar 0) (eC (.int 3))) (eC (.int 4))) (eC (.int 2))))
  sSkip)
def g_even_links : List MP.D → Option Res := mkG (b_even_links) 1 1
def N_links_for : List Str := ["bike", "gear", "stay"]
def b_links_for (g_check_bike : List MP.D → Option Res) (g_check_gear : List MP.D → Option Res) (g_check_stay : List MP.D → Option Res) (g_even_links : List MP.D → Option Res) (g_twice_needed : List MP.D → Option Res) : S := (sSeq (sExpr (eFn g_check_bike (elCons (eVarS 0) elNil)))
  (sSeq (sExpr (eFn g_check_gear (elCons (eVarS 0) (elCons (eVarS 1) elNil))))
  (sSeq (sExpr (eFn g_check_stay (elCons (eVarS 2) elNil)))
  (sSeq (sRet (eFn g_even_links (elCons (eFn g_twice_needed (elCons (eVarS 0) (elCons (eVarS 1) (elCons (eVarS 2) elNil)))) elNil)))
  sSkip))))
def g_links_for : List MP.D → Option Res := mkG (b_links_for g_check_bike g_check_gear g_check_stay g_even_links g_twice_needed) 3 3
def N_chain_for : List Str := ["bike", "stay"]
def b_chain_for (g_check_bike : List MP.D → Option Res) (g_check_stay : List MP.D → Option Res) (g_even_links : List MP.D → Option Res) (g_twice_needed : List MP.D → Option Res) : S := (sSeq (sExpr (eFn g_check_bike (elCons (eVarS 0) elNil)))
  (sSeq (sExpr (eFn g_check_stay (elCons (eVarS 1) elNil)))
  (sSeq (sRet (eFn g_even_links (elCons (eFn g_twice_needed (elCons (eVarS 0) (elCons (eFn mkT (elCons (eOp2 gSub (eFn (rB bLen) (elCons (eOp2 gIdx (eVar 0) (eC (.int 0))) elNil)) (eC (.int 1))) (elCons (eOp2 gSub (eFn (rB bLen) (elCons (eOp2 gIdx (eVar 0) (eC (.int 1))) elNil)) (eC (.int 1))) elNil))) (elCons (eVarS 1) elNil)))) elNil)))
  sSkip)))
def g_chain_for : List MP.D → Option Res := mkG (b_chain_for g_check_bike g_check_stay g_even_links g_twice_needed) 2 2
def N_slack : List Str := ["bike", "gear", "stay", "links"]
def b_slack (g_check_bike : List MP.D → Option Res) (g_check_gear : List MP.D → Option Res) (g_check_links : List MP.D → Option Res) (g_check_stay : List MP.D → Option Res) (g_twice_needed : List MP.D → Option Res) : S := (sSeq (sExpr (eFn g_check_bike (elCons (eVarS 0) elNil)))
  (sSeq (sExpr (eFn g_check_gear (elCons (eVarS 0) (elCons (eVarS 1) elNil))))
  (sSeq (sExpr (eFn g_check_stay (elCons (eVarS 2) elNil)))
  (sSeq (sExpr (eFn g_check_links (elCons (eVarS 3) elNil)))
  (sSeq (sRet (eOp2 gSub (eOp2 gMul (eC (.int 2)) (eVar 3)) (eFn g_twice_needed (elCons (eVarS 0) (elCons (eVarS 1) (elCons (eVarS 2) elNil))))))
  sSkip)))))
def g_slack : List MP.D → Option Res := mkG (b_slack g_check_bike g_check_gear g_check_links g_check_stay g_twice_needed) 4 4
def N__wall : List Str := ["k"]
def b__wall : S := (sSeq (sWhile 1000000000000 (eC (.bool true)) (sSeq sSkip
  sSkip))
  sSkip)
def g__wall : List MP.D → Option Res := mkG (b__wall) 1 1
def N_read_int : List Str := ["text", "sign"]
def b_read_int : S := (sSeq (sIf (eOr (eNot (eChain gLe gLe (eC (.int 1)) (eFn (rB bLen) (elCons (eVar 0) elNil)) (eC (.int 2)))) (eOr (eNot (eFn (rB bAll) (elCons (eComp [1] (.nm 1) (iSeq (eVar 0)) (eC (.bool true)) (eOp2 gInS (eVar 1) (eC (.str "0123456789")))) elNil))) (eOp2 gEq (eOp2 gIdx (eVar 0) (eC (.int 0))) (eC (.str "0"))))) (sSeq (sRet (eC (.int 0)))
  sSkip) sSkip)
  (sSeq (sRet (eFn (rB bIntS) (elCons (eVar 0) elNil)))
  sSkip))
def g_read_int : List MP.D → Option Res := mkG (b_read_int) 1 2
def N_chart : List Str := ["bike", "found", "cog", "ratios", "ring", "above", "below"]
def b_chart (g_check_bike : List MP.D → Option Res) (g_find_ratio : List MP.D → Option Res) : S := (sSeq (sExpr (eFn g_check_bike (elCons (eVarS 0) elNil)))
  (sSeq (sOwn 1 (eFn mkL elNil))
  (sSeq (sFor (iRng1 (eFn (rB bLen) (elCons (eOp2 gIdx (eVar 0) (eC (.int 1))) elNil))) (.nm 2) (sSeq (sAsg 3 (eComp [4] (.nm 4) (iRng1 (eFn (rB bLen) (elCons (eOp2 gIdx (eVar 0) (eC (.int 0))) elNil))) (eC (.bool true)) (eFn g_find_ratio (elCons (eVarS 0) (elCons (eFn mkT (elCons (eVarS 4) (elCons (eVarS 2) elNil))) elNil)))))
  (sSeq (sApp 1 (eMt "str" gJoin (eC (.str " ")) (eComp [5, 6] (.tp [5, 6]) (iSeq (eVar 3)) (eC (.bool true)) (eOp2 gAdd (eOp2 gAdd (eFn (rB bStr) (elCons (eVar 5) elNil)) (eC (.str ":"))) (eFn (rB bStr) (elCons (eVar 6) elNil))))))
  sSkip)))
  (sSeq (sRetV 1)
  sSkip))))
def g_chart : List MP.D → Option Res := mkG (b_chart g_check_bike g_find_ratio) 1 7
def N_read_ratio : List Str := ["text", "parts", "part"]
def b_read_ratio (g_divisor : List MP.D → Option Res) (g_read_int : List MP.D → Option Res) : S := (sSeq (sAsg 1 (eComp [2] (.nm 2) (iSeq (eMt "str" gSplit (eVar 0) (eC (.str ":")))) (eC (.bool true)) (eFn g_read_int (elCons (eVarS 2) elNil))))
  (sSeq (sIf (eOr (eOp2 gNe (eFn (rB bLen) (elCons (eVar 1) elNil)) (eC (.int 2))) (eOr (eOp2 gInL (eC (.int 0)) (eVar 1)) (eOp2 gNe (eFn g_divisor (elCons (eOp2 gIdx (eVar 1) (eC (.int 0))) (elCons (eOp2 gIdx (eVar 1) (eC (.int 1))) elNil))) (eC (.int 1))))) (sSeq (sRaise "ParseError")
  sSkip) sSkip)
  (sSeq (sRet (eFn mkT (elCons (eOp2 gIdx (eVar 1) (eC (.int 0))) (elCons (eOp2 gIdx (eVar 1) (eC (.int 1))) elNil))))
  sSkip)))
def g_read_ratio : List MP.D → Option Res := mkG (b_read_ratio g_divisor g_read_int) 1 3
def N_read_chart : List Str := ["rows", "found", "row", "part"]
def b_read_chart (g_read_ratio : List MP.D → Option Res) : S := (sSeq (sIf (eOr (eNot (eOp1 (gIsi "list") (eVar 0))) (eNot (eFn (rB bAll) (elCons (eComp [2] (.nm 2) (iSeq (eVar 0)) (eC (.bool true)) (eOp1 (gIsi "str") (eVar 2))) elNil)))) (sSeq (sRaise "ParseError")
  sSkip) sSkip)
  (sSeq (sAsg 1 (eCompX [2] (.nm 2) (iSeq (eVar 0)) (eC (.bool true)) (eCompX [3] (.nm 3) (iSeq (eMt "str" gSplit (eVar 2) (eC (.str " ")))) (eC (.bool true)) (eFn g_read_ratio (elCons (eVarS 3) elNil)))))
  (sSeq (sIf (eNot (eFn (rB bAll) (elCons (eComp [2] (.nm 2) (iSeq (eVar 1)) (eC (.bool true)) (eOp2 gEq (eFn (rB bLen) (elCons (eVar 2) elNil)) (eFn (rB bLen) (elCons (eOp2 gIdx (eVar 1) (eC (.int 0))) elNil)))) elNil))) (sSeq (sRaise "ParseError")
  sSkip) sSkip)
  (sSeq (sRetV 1)
  sSkip))))
def g_read_chart : List MP.D → Option Res := mkG (b_read_chart g_read_ratio) 1 4
def N_naive_ladder : List Str := ["bike", "rings", "cogs", "found", "ring", "cog", "less", "one", "many", "fraction"]
def b_naive_ladder (g_all_gears : List MP.D → Option Res) (g_check_bike : List MP.D → Option Res) (g_reduced : List MP.D → Option Res) : S := (sSeq (sExpr (eFn g_check_bike (elCons (eVarS 0) elNil)))
  (sSeq (sUnp (.tp [1, 2]) (eVarS 0))
  (sSeq (sOwn 3 (eFn mkL elNil))
  (sSeq (sFor (iSeq (eFn g_all_gears (elCons (eVarS 0) elNil))) (.tp [4, 5]) (sSeq (sAsg 6 (eComp [7] (.nm 7) (iSeq (eFn g_all_gears (elCons (eVarS 0) elNil))) (eOp2 gLt (eOp2 gMul (eOp2 gIdx (eVar 1) (eOp2 gIdx (eVar 7) (eC (.int 0)))) (eOp2 gIdx (eVar 2) (eVar 5))) (eOp2 gMul (eOp2 gIdx (eVar 1) (eVar 4)) (eOp2 gIdx (eVar 2) (eOp2 gIdx (eVar 7) (eC (.int 1)))))) (eVarS 7)))
  (sSeq (sApp 3 (eFn mkT (elCons (eFn (rB bLen) (elCons (eVar 6) elNil)) (elCons (eFn g_reduced (elCons (eOp2 gIdx (eVar 1) (eVar 4)) (elCons (eOp2 gIdx (eVar 2) (eVar 5)) elNil))) elNil))))
  sSkip)))
  (sSeq (sRet (eComp [8, 9] (.tp [8, 9]) (iSeq (eFn (rB bUSort3) (elCons (eVar 3) elNil))) (eC (.bool true)) (eVarS 9)))
  sSkip)))))
def g_naive_ladder : List MP.D → Option Res := mkG (b_naive_ladder g_all_gears g_check_bike g_reduced) 1 10
end MP

set_option Elab.async false
set_option linter.all false
set_option maxRecDepth 100000
set_option maxHeartbeats 0
namespace MP
open PySem PySem.Spec PyProof.Rows L2
def clL : List Str := ["InvalidBike", "ParseError"]
def N_join_bike : List Str := ["bike", "part", "teeth"]
def b_join_bike : S := (sSeq (sRet (eMt "str" gJoin (eC (.str "/")) (eComp [1] (.nm 1) (iSeq (eVar 0)) (eC (.bool true)) (eMt "str" gJoin (eC (.str "-")) (eComp [2] (.nm 2) (iSeq (eVar 1)) (eC (.bool true)) (eFn (rB bStr) (elCons (eVar 2) elNil)))))))
  sSkip)
def g_join_bike : List MP.D → Option Res := mkG (b_join_bike) 1 3
def N_format_bike : List Str := ["bike"]
def b_format_bike (g_check_bike : List MP.D → Option Res) (g_join_bike : List MP.D → Option Res) : S := (sSeq (sExpr (eFn g_check_bike (elCons (eVarS 0) elNil)))
  (sSeq (sRet (eFn g_join_bike (elCons (eVarS 0) elNil)))
  sSkip))
def g_format_bike : List MP.D → Option Res := mkG (b_format_bike g_check_bike g_join_bike) 1 1
def N_parse_bike : List Str := ["text", "bike", "side", "part"]
def b_parse_bike (g_is_bike : List MP.D → Option Res) (g_read_int : List MP.D → Option Res) : S := (sSeq (sIf (eNot (eOp1 (gIsi "str") (eVar 0))) (sSeq (sRaise "ParseError")
  sSkip) sSkip)
  (sSeq (sAsg 1 (eFn (rB bTuple) (elCons (eComp [2] (.nm 2) (iSeq (eMt "str" gSplit (eVar 0) (eC (.str "/")))) (eC (.bool true)) (eFn (rB bTuple) (elCons (eComp [3] (.nm 3) (iSeq (eMt "str" gSplit (eVar 2) (eC (.str "-")))) (eC (.bool true)) (eFn g_read_int (elCons (eVarS 3) elNil))) elNil))) elNil)))
  (sSeq (sIf (eNot (eFn g_is_bike (elCons (eVarS 1) elNil))) (sSeq (sRaise "ParseError")
  sSkip) sSkip)
  (sSeq (sRetV 1)
  sSkip))))
def g_parse_bike : List MP.D → Option Res := mkG (b_parse_bike g_is_bike g_read_int) 1 4
def N__law_text : List Str := ["bike", "teeth"]
def b__law_text : S := (sSeq (sRet (eOp2 gAdd (eOp2 gAdd (eMt "str" gJoin (eC (.str "-")) (eComp [1] (.nm 1) (iSeq (eOp2 gIdx (eVar 0) (eC (.int 0)))) (eC (.bool true)) (eFn (rB bStr) (elCons (eVar 1) elNil)))) (eC (.str "/"))) (eMt "str" gJoin (eC (.str "-")) (eComp [1] (.nm 1) (iSeq (eOp2 gIdx (eVar 0) (eC (.int 1)))) (eC (.bool true)) (eFn (rB bStr) (elCons (eVar 1) elNil))))))
  sSkip)
def g__law_text : List MP.D → Option Res := mkG (b__law_text) 1 2
def N__law_row : List Str := ["ratios", "above", "below"]
def b__law_row : S := (sSeq (sRet (eMt "str" gJoin (eC (.str " ")) (eComp [1, 2] (.tp [1, 2]) (iSeq (eVar 0)) (eC (.bool true)) (eOp2 gAdd (eOp2 gAdd (eFn (rB bStr) (elCons (eVar 1) elNil)) (eC (.str ":"))) (eFn (rB bStr) (elCons (eVar 2) elNil))))))
  sSkip)
def g__law_row : List MP.D → Option Res := mkG (b__law_row) 1 3
def N__law_again : List Str := ["way", "one", "e", "row"]
def b__law_again (g__law_row : List MP.D → Option Res) (g__law_text : List MP.D → Option Res) (g_parse_bike : List MP.D → Option Res) (g_read_chart : List MP.D → Option Res) : S := (sSeq (sTry clL 2 (sSeq (sIf (eOp2 gEq (eVar 0) (eC (.int 0))) (sSeq (sRet (eFn g__law_text (elCons (eFn g_parse_bike (elCons (eVarS 1) elNil)) elNil)))
  sSkip) sSkip)
  (sSeq (sRet (eComp [3] (.nm 3) (iSeq (eFn g_read_chart (elCons (eVarS 1) elNil))) (eC (.bool true)) (eFn g__law_row (elCons (eVarS 3) elNil))))
  sSkip)) (fun x => (sSeq (sRet (eIte (eIsx clL 2 x "ParseError") (eC .none) (eC (.str "another exception"))))
  sSkip)))
  sSkip)
def g__law_again : List MP.D → Option Res := mkG (b__law_again g__law_row g__law_text g_parse_bike g_read_chart) 2 4
def N__law_rejected : List Str := ["bad", "one"]
def b__law_rejected (g__law_again : List MP.D → Option Res) (g_parse_bike : List MP.D → Option Res) (g_read_chart : List MP.D → Option Res) : S := (sSeq (sAsg 0 (eFn mkL (elCons (eC .none) (elCons (eC (.int 7)) (elCons (eC (.str "")) (elCons (eC (.str "/")) (elCons (eC (.str "30")) (elCons (eC (.str "30/")) (elCons (eC (.str "/12")) (elCons (eC (.str "30/12/15")) (elCons (eC (.str "40-30/12")) (elCons (eC (.str "30/12-12")) (elCons (eC (.str "09/12")) elNil)))))))))))))
  (sSeq (sAsg 0 (eOp2 gAdd (eVar 0) (eFn mkL (elCons (eC (.str "030/12")) (elCons (eC (.str "30/012")) (elCons (eC (.str "30-/12")) (elCons (eC (.str "a/12")) (elCons (eC (.str "30/7")) elNil))))))))
  (sSeq (sAsg 0 (eOp2 gAdd (eVar 0) (eFn mkL (elCons (eC (.str "30 /12")) (elCons (eC (.str "30/12 ")) (elCons (eC (.str "61/12")) (elCons (eC (.str "30/12-")) (elCons (eC (.str "30,40/12")) (elCons (eFn mkT (elCons (eC (.str "30/12")) elNil)) (elCons (eC (.str "10-20-30-40/12")) elNil))))))))))
  (sSeq (sAsg 0 (eOp2 gAdd (eVar 0) (eFn mkL (elCons (eC (.str "30/8-9-10-11-12-13-14-15-16")) elNil))))
  (sSeq (sIf (eOp2 gNe (eComp [1] (.nm 1) (iSeq (eVar 0)) (eOp2 gIsNotN (eFn g__law_again (elCons (eC (.int 0)) (elCons (eVarS 1) elNil))) (eC .none)) (eVarS 1)) (eFn mkL elNil)) (sSeq (sRet (eC (.bool false)))
  sSkip) sSkip)
  (sSeq (sAsg 0 (eFn mkL (elCons (eC .none) (elCons (eC (.str "2:1")) (elCons (eFn mkT (elCons (eC (.str "2:1")) elNil)) (elCons (eFn mkL (elCons (eC (.str "")) elNil)) (elCons (eFn mkL (elCons (eC (.str "2")) elNil)) (elCons (eFn mkL (elCons (eC (.str "2:2")) elNil)) (elCons (eFn mkL (elCons (eC (.str "0:1")) elNil)) (elCons (eFn mkL (elCons (eC (.str "02:1")) elNil)) (elCons (eFn mkL (elCons (eC (.str "2:1 ")) elNil)) elNil)))))))))))
  (sSeq (sAsg 0 (eOp2 gAdd (eVar 0) (eFn mkL (elCons (eFn mkL (elCons (eC (.str "2:1  3:1")) elNil)) (elCons (eFn mkL (elCons (eC (.str "2:1")) (elCons (eC (.str "2:1 3:1")) elNil))) (elCons (eFn mkL (elCons (eC (.str "100:1")) elNil)) (elCons (eFn mkL (elCons (eC (.str "2:1:1")) elNil)) elNil)))))))
  (sSeq (sAsg 0 (eOp2 gAdd (eVar 0) (eFn mkL (elCons (eFn mkL (elCons (eC (.int 7)) elNil)) (elCons (eFn mkL (elCons (eC (.str "2:1")) (elCons (eC .none) elNil))) (elCons (eFn mkL (elCons (eC (.str "a:1")) elNil)) (elCons (eFn mkL (elCons (eC (.str ":")) elNil)) (elCons (eFn mkL (elCons (eC (.str "2;1")) elNil)) (elCons (eFn mkL (elCons (eC (.str "-2:1")) elNil)) elNil)))))))))
  (sSeq (sIf (eNot (eOp2 gEq (eComp [1] (.nm 1) (iSeq (eVar 0)) (eOp2 gIsNotN (eFn g__law_again (elCons (eC (.int 1)) (elCons (eVarS 1) elNil))) (eC .none)) (eVarS 1)) (eFn mkL elNil))) (sSeq (sRet (eC (.bool false)))
  sSkip) sSkip)
  (sSeq (sRet (eAnd (eOp2 gEq (eFn g_read_chart (elCons (eFn mkL elNil) elNil)) (eFn mkL elNil)) (eOp2 gEq (eFn g_parse_bike (elCons (eC (.str "30-40/12")) elNil)) (eFn mkT (elCons (eFn mkT (elCons (eC (.int 30)) (elCons (eC (.int 40)) elNil))) (elCons (eFn mkT (elCons (eC (.int 12)) elNil)) elNil))))))
  sSkip))))))))))
def g__law_rejected : List MP.D → Option Res := mkG (b__law_rejected g__law_again g_parse_bike g_read_chart) 0 2
def N__law_refused : List Str := ["way", "one", "e"]
def b__law_refused (g_chart : List MP.D → Option Res) (g_format_bike : List MP.D → Option Res) : S := (sSeq (sTry clL 2 (sSeq (sExpr (eSel [g_format_bike, g_chart] (eVar 0) (elCons (eVarS 1) elNil)))
  sSkip) (fun x => (sSeq (sRet (eIsx clL 2 x "InvalidBike"))
  sSkip)))
  (sSeq (sRet (eC (.bool false)))
  sSkip))
def g__law_refused : List MP.D → Option Res := mkG (b__law_refused g_chart g_format_bike) 2 3
def N_law : List Str := ["script", "bike", "text", "rows", "cog", "k", "at", "way", "known", "place", "sign", "new", "bent", "ring", "row"]
def b_law (g__law_again : List MP.D → Option Res) (g__law_badbike : List MP.D → Option Res) (g__law_bike : List MP.D → Option Res) (g__law_drawn : List MP.D → Option Res) (g__law_least : List MP.D → Option Res) (g__law_refused : List MP.D → Option Res) (g__law_rejected : List MP.D → Option Res) (g__law_row : List MP.D → Option Res) (g__law_text : List MP.D → Option Res) (g_chart : List MP.D → Option Res) (g_format_bike : List MP.D → Option Res) (g_parse_bike : List MP.D → Option Res) (g_read_chart : List MP.D → Option Res) : S := (sSeq (sAsg 1 (eFn g__law_bike (elCons (eVarS 0) (elCons (eC (.int 10)) elNil))))
  (sSeq (sAsg 2 (eFn g__law_text (elCons (eVarS 1) elNil)))
  (sSeq (sIf (eOr (eOp2 gNe (eFn g_format_bike (elCons (eVarS 1) elNil)) (eVar 2)) (eOr (eOp2 gNe (eFn g_parse_bike (elCons (eVarS 2) elNil)) (eVar 1)) (eNot (eFn g__law_rejected elNil)))) (sSeq (sRet (eC (.bool false)))
  sSkip) sSkip)
  (sSeq (sOwn 3 (eFn mkL elNil))
  (sSeq (sFor (iSeq (eOp2 gIdx (eVar 1) (eC (.int 1)))) (.nm 4) (sSeq (sApp 3 (eComp [13] (.nm 13) (iSeq (eOp2 gIdx (eVar 1) (eC (.int 0)))) (eC (.bool true)) (eFn g__law_least (elCons (eVarS 13) (elCons (eVarS 4) elNil)))))
  sSkip))
  (sSeq (sIf (eOr (eOp2 gNe (eFn g_chart (elCons (eVarS 1) elNil)) (eComp [14] (.nm 14) (iSeq (eVar 3)) (eC (.bool true)) (eFn g__law_row (elCons (eVarS 14) elNil)))) (eOp2 gNe (eFn g_read_chart (elCons (eFn g_chart (elCons (eVarS 1) elNil)) elNil)) (eVar 3))) (sSeq (sRet (eC (.bool false)))
  sSkip) sSkip)
  (sSeq (sFor (iRng1 (eC (.int 12))) (.nm 5) (sSeq (sPar [6, 7] (mCons kDat (eOp2 gAdd (eC (.int 40)) (eOp2 gMul (eC (.int 5)) (eVar 5))) (mCons kDat (eOp2 gMod (eVar 5) (eC (.int 2))) mNil)))
  (sSeq (sAsg 8 (eOp2 gIdx (eFn mkL (elCons (eVarS 2) (elCons (eOp2 gIdx (eFn g_chart (elCons (eVarS 1) elNil)) (eFn g__law_drawn (elCons (eVarS 0) (elCons (eOp2 gAdd (eVar 6) (eC (.int 4))) (elCons (eFn (rB bLen) (elCons (eVar 3) elNil)) elNil))))) elNil))) (eVar 7)))
  (sSeq (sPar [9, 10] (mCons kDat (eFn g__law_drawn (elCons (eVarS 0) (elCons (eVarS 6) (elCons (eOp2 gAdd (eFn (rB bLen) (elCons (eVar 8) elNil)) (eC (.int 1))) elNil)))) (mCons kDat (eOp2 gIdx (eC (.str "12/-: 0")) (eFn g__law_drawn (elCons (eVarS 0) (elCons (eOp2 gAdd (eVar 6) (eC (.int 1))) (elCons (eC (.int 7)) elNil))))) mNil)))
  (sSeq (sAsg 11 (eIte (eOp2 gEq (eFn g__law_drawn (elCons (eVarS 0) (elCons (eOp2 gAdd (eVar 6) (eC (.int 2))) (elCons (eC (.int 3)) elNil)))) (eC (.int 0))) (eC (.str "")) (eVarS 10)))
  (sSeq (sAsg 12 (eOp2 gAdd (eOp2 gAdd (eSlc (eVar 8) pNone (pSome (eVar 9))) (eVar 11)) (eSlc (eVar 8) (pSome (eOp2 gAdd (eVar 9) (eFn g__law_drawn (elCons (eVarS 0) (elCons (eOp2 gAdd (eVar 6) (eC (.int 3))) (elCons (eC (.int 2)) elNil)))))) pNone)))
  (sSeq (sIf (eOp2 gNotInT (eFn g__law_again (elCons (eVarS 7) (elCons (eIte (eOp2 gEq (eVar 7) (eC (.int 0))) (eVarS 12) (eFn mkL (elCons (eVarS 12) elNil))) elNil))) (eFn mkT (elCons (eC .none) (elCons (eIte (eOp2 gEq (eVar 7) (eC (.int 0))) (eVarS 12) (eFn mkL (elCons (eVarS 12) elNil))) elNil)))) (sSeq (sRet (eC (.bool false)))
  sSkip) sSkip)
  sSkip)))))))
  (sSeq (sRet (eAnd (eFn g__law_refused (elCons (eC (.int 0)) (elCons (eFn g__law_badbike (elCons (eVarS 0) (elCons (eC (.int 1)) elNil))) elNil))) (eFn g__law_refused (elCons (eC (.int 1)) (elCons (eFn g__law_badbike (elCons (eVarS 0) (elCons (eC (.int 2)) elNil))) elNil)))))
  sSkip))))))))
/-- the law, by data alone -/
def Plain : Prop := ∀ ns : List Int, ns.length ≤ 63 → runD (b_law g__law_again g__law_badbike g__law_bike g__law_drawn g__law_least g__law_refused g__law_rejected g__law_row g__law_text g_chart g_format_bike g_parse_bike g_read_chart) 15 [.list (ns.map PyData.int)] = some (.ok (.bool true))
end MP

set_option Elab.async false
set_option linter.all false
set_option maxRecDepth 100000
set_option maxHeartbeats 0
namespace MP
open PySem PySem.Spec PyProof.Rows L2
def top (i : Nat) : Stmt := PySem.Challenge.pw_cogrings_k68_formats.main.body.getD i (.Pass ⟨0, 0, 0, 0⟩)
def dd_is_int : He.DefD := ⟨("is_int", none), "is_int", "is_int", defArgs (top 11), defBody (top 11), defScope (top 11), [], []⟩
def dd_are_teeth : He.DefD := ⟨("are_teeth", none), "are_teeth", "are_teeth", defArgs (top 12), defBody (top 12), defScope (top 12), [], []⟩
def dd_are_rings : He.DefD := ⟨("are_rings", none), "are_rings", "are_rings", defArgs (top 13), defBody (top 13), defScope (top 13), [], []⟩
def dd_are_cogs : He.DefD := ⟨("are_cogs", none), "are_cogs", "are_cogs", defArgs (top 14), defBody (top 14), defScope (top 14), [], []⟩
def dd_is_bike : He.DefD := ⟨("is_bike", none), "is_bike", "is_bike", defArgs (top 15), defBody (top 15), defScope (top 15), [], []⟩
def dd_check_bike : He.DefD := ⟨("check_bike", none), "check_bike", "check_bike", defArgs (top 16), defBody (top 16), defScope (top 16), [], []⟩
def dd_divisor : He.DefD := ⟨("divisor", none), "divisor", "divisor", defArgs (top 17), defBody (top 17), defScope (top 17), [], []⟩
def dd_reduced : He.DefD := ⟨("reduced", none), "reduced", "reduced", defArgs (top 18), defBody (top 18), defScope (top 18), [], []⟩
def dd_find_ratio : He.DefD := ⟨("find_ratio", none), "find_ratio", "find_ratio", defArgs (top 19), defBody (top 19), defScope (top 19), [], []⟩
def dd_join_bike : He.DefD := ⟨("join_bike", none), "join_bike", "join_bike", defArgs (top 27), defBody (top 27), defScope (top 27), [], []⟩
def dd_format_bike : He.DefD := ⟨("format_bike", none), "format_bike", "format_bike", defArgs (top 28), defBody (top 28), defScope (top 28), [], []⟩
def dd_read_int : He.DefD := ⟨("read_int", none), "read_int", "read_int", defArgs (top 29), defBody (top 29), defScope (top 29), [], []⟩
def dd_parse_bike : He.DefD := ⟨("parse_bike", none), "parse_bike", "parse_bike", defArgs (top 30), defBody (top 30), defScope (top 30), [], []⟩
def dd_chart : He.DefD := ⟨("chart", none), "chart", "chart", defArgs (top 31), defBody (top 31), defScope (top 31), [], []⟩
def dd_read_ratio : He.DefD := ⟨("read_ratio", none), "read_ratio", "read_ratio", defArgs (top 32), defBody (top 32), defScope (top 32), [], []⟩
def dd_read_chart : He.DefD := ⟨("read_chart", none), "read_chart", "read_chart", defArgs (top 33), defBody (top 33), defScope (top 33), [], []⟩
def dd__law_drawn : He.DefD := ⟨("_law_drawn", none), "_law_drawn", "_law_drawn", defArgs (top 35), defBody (top 35), defScope (top 35), [], []⟩
def dd__law_bike : He.DefD := ⟨("_law_bike", none), "_law_bike", "_law_bike", defArgs (top 36), defBody (top 36), defScope (top 36), [], []⟩
def dd__law_least : He.DefD := ⟨("_law_least", none), "_law_least", "_law_least", defArgs (top 37), defBody (top 37), defScope (top 37), [], []⟩
def dd__law_badbike : He.DefD := ⟨("_law_badbike", none), "_law_badbike", "_law_badbike", defArgs (top 38), defBody (top 38), defScope (top 38), [], []⟩
def dd__law_text : He.DefD := ⟨("_law_text", none), "_law_text", "_law_text", defArgs (top 39), defBody (top 39), defScope (top 39), [], []⟩
def dd__law_row : He.DefD := ⟨("_law_row", none), "_law_row", "_law_row", defArgs (top 40), defBody (top 40), defScope (top 40), [], []⟩
def dd__law_again : He.DefD := ⟨("_law_again", none), "_law_again", "_law_again", defArgs (top 41), defBody (top 41), defScope (top 41), [], []⟩
def dd__law_rejected : He.DefD := ⟨("_law_rejected", none), "_law_rejected", "_law_rejected", defArgs (top 42), defBody (top 42), defScope (top 42), [], []⟩
def dd__law_refused : He.DefD := ⟨("_law_refused", none), "_law_refused", "_law_refused", defArgs (top 43), defBody (top 43), defScope (top 43), [], []⟩
def dd_law : He.DefD := ⟨("law", none), "law", "law", defArgs (top 44), defBody (top 44), defScope (top 44), [], []⟩
def fnL0 : List He.DefD := [dd_is_int, dd_are_teeth, dd_are_rings, dd_are_cogs, dd_is_bike, dd_check_bike, dd_divisor, dd_reduced, dd_find_ratio, dd_join_bike, dd_format_bike, dd_read_int, dd_parse_bike, dd_chart, dd_read_ratio, dd_read_chart, dd__law_drawn, dd__law_bike, dd__law_least, dd__law_badbike, dd__law_text, dd__law_row, dd__law_again, dd__law_rejected, dd__law_refused, dd_law]
def fnL : List He.DefD := fnL0
def faL0 : List He.Fa := [.glo "is_int", .glo "are_teeth", .glo "are_rings", .glo "are_cogs", .glo "is_bike", .glo "check_bike", .glo "divisor", .glo "reduced", .glo "find_ratio", .glo "join_bike", .glo "format_bike", .glo "read_int", .glo "parse_bike", .glo "chart", .glo "read_ratio", .glo "read_chart", .glo "_law_drawn", .glo "_law_bike", .glo "_law_least", .glo "_law_badbike", .glo "_law_text", .glo "_law_row", .glo "_law_again", .glo "_law_rejected", .glo "_law_refused", .glo "law", .free "all", .free "bool", .free "int", .free "isinstance"]
def faL1 : List He.Fa := [.free "len", .free "list", .free "range", .free "set", .free "sorted", .free "str", .free "tuple", .free "zip", .int "MIN_RING" 10, .int "MAX_RING" 60, .int "MAX_RINGS" 3, .int "MIN_COG" 8, .int "MAX_COG" 50, .int "MAX_COGS" 8, .int "MAX_DIGITS" 2, .str "DIGITS" "0123456789", .str "DASH" "-", .str "SLASH" "/", .str "COLON" ":", .str "SPACE" " "]
def faL : List He.Fa := faL0 ++ faL1
abbrev RR : PySem.W.OpenRow := PySem.W.OpenLaw.row PySem.Challenge.rw_cogrings_k68_formats
abbrev hk : PySem.W.Hook := He.hookX 4 faL fnL [] [] (exAll clL)
def ob (s : PySem.W.SharedT) : He.AlX := He.obsX 4 faL fnL [] [] (exAll clL) (HandSHeadRun.getT s)
theorem ob_eq (s : PySem.W.SharedT) : ob s = hk.obs s.abs := He.obsX_eq (HandSHeadRun.getT_eq s)
def looseL0 : List Str := ["GearError", "InvalidBike", "ParseError", "MIN_RING", "MAX_RING", "MAX_RINGS", "MIN_COG", "MAX_COG", "MAX_COGS", "is_int", "are_teeth", "are_rings", "are_cogs", "is_bike", "check_bike", "divisor", "reduced", "find_ratio", "DIGITS", "MAX_DIGITS", "DASH", "SLASH", "COLON", "SPACE", "join_bike", "format_bike", "read_int", "parse_bike", "chart", "read_ratio"]
def looseL1 : List Str := ["read_chart", "_law_drawn", "_law_bike", "_law_least", "_law_badbike", "_law_text", "_law_row", "_law_again", "_law_rejected", "_law_refused"]
def looseL : List Str := looseL0 ++ looseL1
theorem run (w : World) : HandSHeadRun.RunEq RR (PySem.W.view RR.prog [44]) hk ob 3000 looseL w := by
  intro os
  kernel_rfl
end MP

set_option Elab.async false
set_option linter.all false
set_option maxRecDepth 100000
set_option maxHeartbeats 0
namespace MP
open PySem PySem.Spec PyProof.Rows L2
structure Gm (K : PySem.W.Frag) (mg : Str → Option Value) : Prop where
  m_all : mg "all" = none
  m_bool : mg "bool" = none
  m_int : mg "int" = none
  m_isinstance : mg "isinstance" = none
  m_len : mg "len" = none
  m_list : mg "list" = none
  m_range : mg "range" = none
  m_set : mg "set" = none
  m_sorted : mg "sorted" = none
  m_str : mg "str" = none
  m_tuple : mg "tuple" = none
  m_zip : mg "zip" = none
  i_MIN_RING : ∃ t, mg "MIN_RING" = some (.int 10 t)
  i_MAX_RING : ∃ t, mg "MAX_RING" = some (.int 60 t)
  i_MAX_RINGS : ∃ t, mg "MAX_RINGS" = some (.int 3 t)
  i_MIN_COG : ∃ t, mg "MIN_COG" = some (.int 8 t)
  i_MAX_COG : ∃ t, mg "MAX_COG" = some (.int 50 t)
  i_MAX_COGS : ∃ t, mg "MAX_COGS" = some (.int 8 t)
  i_MAX_DIGITS : ∃ t, mg "MAX_DIGITS" = some (.int 2 t)
  s_DIGITS : ∃ t, mg "DIGITS" = some (.str "0123456789" t)
  s_DASH : ∃ t, mg "DASH" = some (.str "-" t)
  s_SLASH : ∃ t, mg "SLASH" = some (.str "/" t)
  s_COLON : ∃ t, mg "COLON" = some (.str ":" t)
  s_SPACE : ∃ t, mg "SPACE" = some (.str " " t)
  x_InvalidBike : XC K mg "InvalidBike"
  x_ParseError : XC K mg "ParseError"
  xk : XKit K mg "GearError" clL
theorem sc_is_int : FnScope N_is_int ["value", "least", "most"] (defScope (top 11)) := ⟨rfl, rfl, rfl, by decide +kernel, rfl, by decide +kernel, by decide +kernel⟩
theorem js_is_int {P : Program} {w : World} {K : PySem.W.Frag} {mg : Str → Option Value} {base : Heap} {f : Addr} {cdv : Value} {A : Around} {outer : List Env} {s : Shared} {H : Hp} {E : XK} {k : Nat} (G : Gm K mg) (hr : Room k (cx P w K mg base N_is_int "is_int" (defScope (top 11)) f cdv A outer s H E).A) (F : List Addr) : JSs (cx P w K mg base N_is_int "is_int" (defScope (top 11)) f cdv A outer s H E) (WD E) F (defBody (top 11)) (b_is_int) := by
  have nd := sc_is_int.nd
  have hu := room_u hr
  exact ss_cons (s_ret (j_and (j_isi G.m_isinstance (by rfl) G.m_int (by rfl) PyProof.Rows.boot_int (j_var (i := 0) (by rfl) (by exact .inl rfl))) (j_and (j_not (l := .s) (j_isi G.m_isinstance (by rfl) G.m_bool (by rfl) PyProof.Rows.boot_bool (j_var (i := 0) (by rfl) (by exact .inl rfl)))) (j_one (j_chain c_le c_le (j_var (i := 1) (by rfl) (by exact .inl rfl)) (j_var (i := 0) (by rfl) (by exact .inl rfl)) (j_var (i := 2) (by rfl) (by exact .inl rfl)))))))
      (ss_nil)
theorem sc_are_teeth : FnScope N_are_teeth ["value", "most", "least", "greatest"] (defScope (top 12)) := ⟨rfl, rfl, rfl, by decide +kernel, rfl, by decide +kernel, by decide +kernel⟩
theorem js_are_teeth {P : Program} {w : World} {K : PySem.W.Frag} {mg : Str → Option Value} {base : Heap} {f : Addr} {cdv : Value} {A : Around} {outer : List Env} {s : Shared} {H : Hp} {E : XK} {k : Nat} {g_is_int : List MP.D → Option Res} (G : Gm K mg) (d_is_int : Df P w K mg base k "is_int" g_is_int) (hr : Room k (cx P w K mg base N_are_teeth "are_teeth" (defScope (top 12)) f cdv A outer s H E).A) (F : List Addr) : JSs (cx P w K mg base N_are_teeth "are_teeth" (defScope (top 12)) f cdv A outer s H E) (WD E) F (defBody (top 12)) (b_are_teeth g_is_int) := by
  have nd := sc_are_teeth.nd
  have hu := room_u hr
  exact ss_cons (s_if (t_bool (w_or (t_not (t_val (j_isi G.m_isinstance (by rfl) G.m_tuple (by rfl) PyProof.Rows.boot_tuple (j_var (i := 0) (by rfl) (by exact .inl rfl))))) (w_or1 (t_not (t_chain c_le c_le (j_int (l := .s)) (j_lenF G.m_len (by rfl) (ja_cons (j_var (i := 0) (by rfl) (by exact .inl rfl)) ja_nil)) (j_var (i := 1) (by rfl) (by exact .inl rfl))))))) (ss_cons (s_ret (j_bl (l := .s)))
      (ss_nil)) (ss_nil))
      (ss_cons (s_if (t_not (t_val (j_allF (by rfl) G.m_all (by rfl) (ja_cons (JE.weak (j_comp (own := [("teeth", 4)]) (t := (.nm 4)) (by rfl) nd (i_seq (j_var (i := 0) (by rfl) (by exact .inl rfl)) nofun) (by show BlkOk N_are_teeth (defScope (top 12)) _ _; exact ⟨rfl, by decide +kernel, by decide +kernel, by decide +kernel, by decide +kernel⟩) (by decide) (fun _ _ _ _ _ => (g_name (i := 4) nd (by rfl) (by exact .inl rfl) (by exact .inr rfl))) (fun _ _ _ _ _ => ts_nil) (fun _ _ _ _ _ => j_call d_is_int takes0 hr (by rfl) (ja_cons (j_varS (i := 4) (by rfl) (by exact .inl rfl)) (ja_cons (j_varS (i := 2) (by rfl) (by exact .inr (.inl rfl))) (ja_cons (j_varS (i := 3) (by rfl) (by exact .inr (.inl rfl))) ja_nil)))))) ja_nil)))) (ss_cons (s_ret (j_bl (l := .s)))
      (ss_nil)) (ss_nil))
      (ss_cons (s_ret (j_allF (by rfl) G.m_all (by rfl) (ja_cons (JE.weak (j_comp (own := [("one", 5), ("other", 6)]) (t := (.tp [5, 6])) (by rfl) nd (i_zip (by rfl) G.m_zip (j_var (i := 0) (by rfl) (by exact .inl rfl)) (JE.weak (j_slc (j_var (i := 0) (by rfl) (by exact .inl rfl)) (p_some (j_int (l := .s))) p_none)) nofun) (by show BlkOk N_are_teeth (defScope (top 12)) _ _; exact ⟨rfl, by decide +kernel, by decide +kernel, by decide +kernel, by decide +kernel⟩) (by decide) (fun _ _ _ _ _ => (g_tup (by rfl) (gs_cons (g_name (i := 5) nd (by rfl) (by exact .inl rfl) (by exact .inr rfl)) (gs_cons (g_name (i := 6) nd (by rfl) (by exact .inl rfl) (by exact .inr rfl)) gs_nil)))) (fun _ _ _ _ _ => ts_nil) (fun _ _ _ _ _ => j_cmpK c_lt (j_var (i := 5) (by rfl) (by exact .inl rfl)) (j_var (i := 6) (by rfl) (by exact .inl rfl)) (nomark _)))) ja_nil)))
      (ss_nil)))
theorem sc_are_rings : FnScope N_are_rings ["value"] (defScope (top 13)) := ⟨rfl, rfl, rfl, by decide +kernel, rfl, by decide +kernel, by decide +kernel⟩
theorem js_are_rings {P : Program} {w : World} {K : PySem.W.Frag} {mg : Str → Option Value} {base : Heap} {f : Addr} {cdv : Value} {A : Around} {outer : List Env} {s : Shared} {H : Hp} {E : XK} {k : Nat} {g_are_teeth : List MP.D → Option Res} (G : Gm K mg) (d_are_teeth : Df P w K mg base k "are_teeth" g_are_teeth) (hr : Room k (cx P w K mg base N_are_rings "are_rings" (defScope (top 13)) f cdv A outer s H E).A) (F : List Addr) : JSs (cx P w K mg base N_are_rings "are_rings" (defScope (top 13)) f cdv A outer s H E) (WD E) F (defBody (top 13)) (b_are_rings g_are_teeth) := by
  have nd := sc_are_rings.nd
  have hu := room_u hr
  exact ss_cons (s_ret (j_call d_are_teeth takes_cx hr (by rfl) (ja_cons (j_varS (i := 0) (by rfl) (by exact .inl rfl)) (ja_cons (j_gintE (l := .s) (G.i_MAX_RINGS) (by rfl)) (ja_cons (j_gintE (l := .s) (G.i_MIN_RING) (by rfl)) (ja_cons (j_gintE (l := .s) (G.i_MAX_RING) (by rfl)) ja_nil))))))
      (ss_nil)
theorem sc_are_cogs : FnScope N_are_cogs ["value"] (defScope (top 14)) := ⟨rfl, rfl, rfl, by decide +kernel, rfl, by decide +kernel, by decide +kernel⟩
theorem js_are_cogs {P : Program} {w : World} {K : PySem.W.Frag} {mg : Str → Option Value} {base : Heap} {f : Addr} {cdv : Value} {A : Around} {outer : List Env} {s : Shared} {H : Hp} {E : XK} {k : Nat} {g_are_teeth : List MP.D → Option Res} (G : Gm K mg) (d_are_teeth : Df P w K mg base k "are_teeth" g_are_teeth) (hr : Room k (cx P w K mg base N_are_cogs "are_cogs" (defScope (top 14)) f cdv A outer s H E).A) (F : List Addr) : JSs (cx P w K mg base N_are_cogs "are_cogs" (defScope (top 14)) f cdv A outer s H E) (WD E) F (defBody (top 14)) (b_are_cogs g_are_teeth) := by
  have nd := sc_are_cogs.nd
  have hu := room_u hr
  exact ss_cons (s_ret (j_call d_are_teeth takes_cx hr (by rfl) (ja_cons (j_varS (i := 0) (by rfl) (by exact .inl rfl)) (ja_cons (j_gintE (l := .s) (G.i_MAX_COGS) (by rfl)) (ja_cons (j_gintE (l := .s) (G.i_MIN_COG) (by rfl)) (ja_cons (j_gintE (l := .s) (G.i_MAX_COG) (by rfl)) ja_nil))))))
      (ss_nil)
theorem sc_is_bike : FnScope N_is_bike ["candidate"] (defScope (top 15)) := ⟨rfl, rfl, rfl, by decide +kernel, rfl, by decide +kernel, by decide +kernel⟩
theorem js_is_bike {P : Program} {w : World} {K : PySem.W.Frag} {mg : Str → Option Value} {base : Heap} {f : Addr} {cdv : Value} {A : Around} {outer : List Env} {s : Shared} {H : Hp} {E : XK} {k : Nat} {g_are_cogs : List MP.D → Option Res} {g_are_rings : List MP.D → Option Res} (G : Gm K mg) (d_are_cogs : Df P w K mg base k "are_cogs" g_are_cogs) (d_are_rings : Df P w K mg base k "are_rings" g_are_rings) (hr : Room k (cx P w K mg base N_is_bike "is_bike" (defScope (top 15)) f cdv A outer s H E).A) (F : List Addr) : JSs (cx P w K mg base N_is_bike "is_bike" (defScope (top 15)) f cdv A outer s H E) (WD E) F (defBody (top 15)) (b_is_bike g_are_cogs g_are_rings) := by
  have nd := sc_is_bike.nd
  have hu := room_u hr
  exact ss_cons (s_if (t_bool (w_or (t_not (t_val (j_isi G.m_isinstance (by rfl) G.m_tuple (by rfl) PyProof.Rows.boot_tuple (j_var (i := 0) (by rfl) (by exact .inl rfl))))) (w_or1 (t_cmpK (c_ne hu) (j_lenF G.m_len (by rfl) (ja_cons (j_var (i := 0) (by rfl) (by exact .inl rfl)) ja_nil)) (j_int (l := .s)) (nomark _))))) (ss_cons (s_ret (j_bl (l := .s)))
      (ss_nil)) (ss_nil))
      (ss_cons (s_ret (j_and (j_call d_are_rings takes_cx hr (by rfl) (ja_cons (j_idx (j_var (i := 0) (by rfl) (by exact .inl rfl)) (j_int (l := .s)) (by intro _ _; rfl)) ja_nil)) (j_one (j_call d_are_cogs takes_cx hr (by rfl) (ja_cons (j_idx (j_var (i := 0) (by rfl) (by exact .inl rfl)) (j_int (l := .s)) (by intro _ _; rfl)) ja_nil)))))
      (ss_nil))
theorem sc_check_bike : FnScope N_check_bike ["value"] (defScope (top 16)) := ⟨rfl, rfl, rfl, by decide +kernel, rfl, by decide +kernel, by decide +kernel⟩
theorem js_check_bike {P : Program} {w : World} {K : PySem.W.Frag} {mg : Str → Option Value} {base : Heap} {f : Addr} {cdv : Value} {A : Around} {outer : List Env} {s : Shared} {H : Hp} {E : XK} {k : Nat} {g_is_bike : List MP.D → Option Res} (G : Gm K mg) (d_is_bike : Df P w K mg base k "is_bike" g_is_bike) (hr : Room k (cx P w K mg base N_check_bike "check_bike" (defScope (top 16)) f cdv A outer s H E).A) (F : List Addr) : JSs (cx P w K mg base N_check_bike "check_bike" (defScope (top 16)) f cdv A outer s H E) (WD E) F (defBody (top 16)) (b_check_bike g_is_bike) := by
  have nd := sc_check_bike.nd
  have hu := room_u hr
  exact ss_cons (s_if (t_not (t_val (j_call d_is_bike takes_cx hr (by rfl) (ja_cons (j_varS (i := 0) (by rfl) (by exact .inl rfl)) ja_nil)))) (ss_cons (s_raise (by rfl) takes_cx G.x_InvalidBike (by rfl))
      (ss_nil)) (ss_nil))
      (ss_nil)
theorem sc_divisor : FnScope N_divisor ["one", "other"] (defScope (top 17)) := ⟨rfl, rfl, rfl, by decide +kernel, rfl, by decide +kernel, by decide +kernel⟩
theorem js_divisor {P : Program} {w : World} {K : PySem.W.Frag} {mg : Str → Option Value} {base : Heap} {f : Addr} {cdv : Value} {A : Around} {outer : List Env} {s : Shared} {H : Hp} {E : XK} {k : Nat} (G : Gm K mg) (hr : Room k (cx P w K mg base N_divisor "divisor" (defScope (top 17)) f cdv A outer s H E).A) (F : List Addr) : JSs (cx P w K mg base N_divisor "divisor" (defScope (top 17)) f cdv A outer s H E) (WD E) F (defBody (top 17)) (b_divisor) := by
  have nd := sc_divisor.nd
  have hu := room_u hr
  exact ss_cons (s_while 1000000000000 pass_cx (t_cmpK c_gt (j_var (i := 1) (by rfl) (by exact .inl rfl)) (j_int (l := .s)) (nomark _)) (ss_cons (s_par2 (i := 0) (j := 1) (by rfl) nd (by rfl) (by rfl) (by decide) (by rfl) (by rfl) (m_dat (j_varS (i := 1) (by rfl) (by exact .inl rfl)) (m_dat (j_mod (l := .s) (j_var (i := 0) (by rfl) (by exact .inl rfl)) (j_var (i := 1) (by rfl) (by exact .inl rfl))) m_nil)) (by rfl))
      (ss_nil)))
      (ss_cons (s_retV (i := 0) (by rfl) (by exact .inl rfl))
      (ss_nil))
theorem sc_reduced : FnScope N_reduced ["above", "below"] (defScope (top 18)) := ⟨rfl, rfl, rfl, by decide +kernel, rfl, by decide +kernel, by decide +kernel⟩
theorem js_reduced {P : Program} {w : World} {K : PySem.W.Frag} {mg : Str → Option Value} {base : Heap} {f : Addr} {cdv : Value} {A : Around} {outer : List Env} {s : Shared} {H : Hp} {E : XK} {k : Nat} {g_divisor : List MP.D → Option Res} (G : Gm K mg) (d_divisor : Df P w K mg base k "divisor" g_divisor) (hr : Room k (cx P w K mg base N_reduced "reduced" (defScope (top 18)) f cdv A outer s H E).A) (F : List Addr) : JSs (cx P w K mg base N_reduced "reduced" (defScope (top 18)) f cdv A outer s H E) (WD E) F (defBody (top 18)) (b_reduced g_divisor) := by
  have nd := sc_reduced.nd
  have hu := room_u hr
  exact ss_cons (s_asg (i := 2) nd (by rfl) (by exact .inl rfl) (j_call d_divisor takes_cx hr (by rfl) (ja_cons (j_varS (i := 0) (by rfl) (by exact .inl rfl)) (ja_cons (j_varS (i := 1) (by rfl) (by exact .inl rfl)) ja_nil))) (by exact .inl rfl))
      (ss_cons (s_ret (j_tup (l := .s) (ja_cons (j_fdiv (l := .s) (j_var (i := 0) (by rfl) (by exact .inl rfl)) (j_var (i := 2) (by rfl) (by exact .inl rfl))) (ja_cons (j_fdiv (l := .s) (j_var (i := 1) (by rfl) (by exact .inl rfl)) (j_var (i := 2) (by rfl) (by exact .inl rfl))) ja_nil))))
      (ss_nil))
theorem sc_find_ratio : FnScope N_find_ratio ["bike", "gear"] (defScope (top 19)) := ⟨rfl, rfl, rfl, by decide +kernel, rfl, by decide +kernel, by decide +kernel⟩
theorem js_find_ratio {P : Program} {w : World} {K : PySem.W.Frag} {mg : Str → Option Value} {base : Heap} {f : Addr} {cdv : Value} {A : Around} {outer : List Env} {s : Shared} {H : Hp} {E : XK} {k : Nat} {g_reduced : List MP.D → Option Res} (G : Gm K mg) (d_reduced : Df P w K mg base k "reduced" g_reduced) (hr : Room k (cx P w K mg base N_find_ratio "find_ratio" (defScope (top 19)) f cdv A outer s H E).A) (F : List Addr) : JSs (cx P w K mg base N_find_ratio "find_ratio" (defScope (top 19)) f cdv A outer s H E) (WD E) F (defBody (top 19)) (b_find_ratio g_reduced) := by
  have nd := sc_find_ratio.nd
  have hu := room_u hr
  exact ss_cons (s_ret (j_call d_reduced takes_cx hr (by rfl) (ja_cons (j_idx (j_idx (j_var (i := 0) (by rfl) (by exact .inl rfl)) (j_int (l := .s)) (by intro _ _; rfl)) (j_idx (j_var (i := 1) (by rfl) (by exact .inl rfl)) (j_int (l := .s)) (by intro _ _; rfl)) (by intro _ _; rfl)) (ja_cons (j_idx (j_idx (j_var (i := 0) (by rfl) (by exact .inl rfl)) (j_int (l := .s)) (by intro _ _; rfl)) (j_idx (j_var (i := 1) (by rfl) (by exact .inl rfl)) (j_int (l := .s)) (by intro _ _; rfl)) (by intro _ _; rfl)) ja_nil))))
      (ss_nil)
theorem sc_join_bike : FnScope N_join_bike ["bike"] (defScope (top 27)) := ⟨rfl, rfl, rfl, by decide +kernel, rfl, by decide +kernel, by decide +kernel⟩
theorem js_join_bike {P : Program} {w : World} {K : PySem.W.Frag} {mg : Str → Option Value} {base : Heap} {f : Addr} {cdv : Value} {A : Around} {outer : List Env} {s : Shared} {H : Hp} {E : XK} {k : Nat} (G : Gm K mg) (hr : Room k (cx P w K mg base N_join_bike "join_bike" (defScope (top 27)) f cdv A outer s H E).A) (F : List Addr) : JSs (cx P w K mg base N_join_bike "join_bike" (defScope (top 27)) f cdv A outer s H E) (WD E) F (defBody (top 27)) (b_join_bike) := by
  have nd := sc_join_bike.nd
  have hu := room_u hr
  exact ss_cons (s_ret (j_join (j_gstrE (l := .s) (G.s_SLASH) (by rfl)) (j_comp (own := [("part", 1)]) (t := (.nm 1)) (by rfl) nd (i_seq (j_var (i := 0) (by rfl) (by exact .inl rfl)) nofun) (by show BlkOk N_join_bike (defScope (top 27)) _ _; exact ⟨rfl, by decide +kernel, by decide +kernel, by decide +kernel, by decide +kernel⟩) (by decide) (fun _ _ _ _ _ => (g_name (i := 1) nd (by rfl) (by exact .inl rfl) (by exact .inr rfl))) (fun _ _ _ _ _ => ts_nil) (fun _ _ _ _ _ => j_join (j_gstrE (l := .s) (G.s_DASH) (by rfl)) (j_comp (own := [("teeth", 2)]) (t := (.nm 2)) (by rfl) nd (i_seq (j_var (i := 1) (by rfl) (by exact .inl rfl)) nofun) (by show BlkOk N_join_bike (relS _ (defScope (top 27))) _ _; exact ⟨rfl, by decide +kernel, by decide +kernel, by decide +kernel, by decide +kernel⟩) (by decide) (fun _ _ _ _ _ => (g_name (i := 2) nd (by rfl) (by exact .inl rfl) (by exact .inr rfl))) (fun _ _ _ _ _ => ts_nil) (fun _ _ _ _ _ => j_strF G.m_str (by rfl) (ja_cons (j_var (i := 2) (by rfl) (by exact .inl rfl)) ja_nil)))))))
      (ss_nil)
theorem sc_format_bike : FnScope N_format_bike ["bike"] (defScope (top 28)) := ⟨rfl, rfl, rfl, by decide +kernel, rfl, by decide +kernel, by decide +kernel⟩
theorem js_format_bike {P : Program} {w : World} {K : PySem.W.Frag} {mg : Str → Option Value} {base : Heap} {f : Addr} {cdv : Value} {A : Around} {outer : List Env} {s : Shared} {H : Hp} {E : XK} {k : Nat} {g_check_bike : List MP.D → Option Res} {g_join_bike : List MP.D → Option Res} (G : Gm K mg) (d_check_bike : Df P w K mg base k "check_bike" g_check_bike) (d_join_bike : Df P w K mg base k "join_bike" g_join_bike) (hr : Room k (cx P w K mg base N_format_bike "format_bike" (defScope (top 28)) f cdv A outer s H E).A) (F : List Addr) : JSs (cx P w K mg base N_format_bike "format_bike" (defScope (top 28)) f cdv A outer s H E) (WD E) F (defBody (top 28)) (b_format_bike g_check_bike g_join_bike) := by
  have nd := sc_format_bike.nd
  have hu := room_u hr
  exact ss_cons (s_expr (j_call d_check_bike takes_cx hr (by rfl) (ja_cons (j_varS (i := 0) (by rfl) (by exact .inl rfl)) ja_nil)))
      (ss_cons (s_ret (j_call d_join_bike takes_cx hr (by rfl) (ja_cons (j_varS (i := 0) (by rfl) (by exact .inl rfl)) ja_nil)))
      (ss_nil))
theorem sc_read_int : FnScope N_read_int ["text"] (defScope (top 29)) := ⟨rfl, rfl, rfl, by decide +kernel, rfl, by decide +kernel, by decide +kernel⟩
theorem js_read_int {P : Program} {w : World} {K : PySem.W.Frag} {mg : Str → Option Value} {base : Heap} {f : Addr} {cdv : Value} {A : Around} {outer : List Env} {s : Shared} {H : Hp} {E : XK} {k : Nat} (G : Gm K mg) (hr : Room k (cx P w K mg base N_read_int "read_int" (defScope (top 29)) f cdv A outer s H E).A) (F : List Addr) : JSs (cx P w K mg base N_read_int "read_int" (defScope (top 29)) f cdv A outer s H E) (WD E) F (defBody (top 29)) (b_read_int) := by
  have nd := sc_read_int.nd
  have hu := room_u hr
  exact ss_cons (s_if (t_bool (w_or (t_not (t_chain c_le c_le (j_int (l := .s)) (j_lenF G.m_len (by rfl) (ja_cons (j_var (i := 0) (by rfl) (by exact .inl rfl)) ja_nil)) (j_gintE (l := .s) (G.i_MAX_DIGITS) (by rfl)))) (w_or (t_not (t_val (j_allF (by rfl) G.m_all (by rfl) (ja_cons (JE.weak (j_comp (own := [("sign", 1)]) (t := (.nm 1)) (by rfl) nd (i_seq (j_var (i := 0) (by rfl) (by exact .inl rfl)) nofun) (by show BlkOk N_read_int (defScope (top 29)) _ _; exact ⟨rfl, by decide +kernel, by decide +kernel, by decide +kernel, by decide +kernel⟩) (by decide) (fun _ _ _ _ _ => (g_name (i := 1) nd (by rfl) (by exact .inl rfl) (by exact .inr rfl))) (fun _ _ _ _ _ => ts_nil) (fun _ _ _ _ _ => j_cmpK c_inS (j_var (i := 1) (by rfl) (by exact .inl rfl)) (j_gstrE (l := .s) (G.s_DIGITS) (by rfl)) (by with_unfolding_all rfl)))) ja_nil)))) (w_or1 (t_cmpK (c_eq hu) (j_idx (j_var (i := 0) (by rfl) (by exact .inl rfl)) (j_int (l := .s)) (by intro _ _; rfl)) (j_str (l := .s)) (nomark _)))))) (ss_cons (s_ret (j_int (l := .s)))
      (ss_nil)) (ss_nil))
      (ss_cons (s_ret (j_intS G.m_int (by rfl) (ja_cons (j_var (i := 0) (by rfl) (by exact .inl rfl)) ja_nil)))
      (ss_nil))
theorem sc_parse_bike : FnScope N_parse_bike ["text"] (defScope (top 30)) := ⟨rfl, rfl, rfl, by decide +kernel, rfl, by decide +kernel, by decide +kernel⟩
theorem js_parse_bike {P : Program} {w : World} {K : PySem.W.Frag} {mg : Str → Option Value} {base : Heap} {f : Addr} {cdv : Value} {A : Around} {outer : List Env} {s : Shared} {H : Hp} {E : XK} {k : Nat} {g_is_bike : List MP.D → Option Res} {g_read_int : List MP.D → Option Res} (G : Gm K mg) (d_is_bike : Df P w K mg base k "is_bike" g_is_bike) (d_read_int : Df P w K mg base k "read_int" g_read_int) (hr : Room k (cx P w K mg base N_parse_bike "parse_bike" (defScope (top 30)) f cdv A outer s H E).A) (F : List Addr) : JSs (cx P w K mg base N_parse_bike "parse_bike" (defScope (top 30)) f cdv A outer s H E) (WD E) F (defBody (top 30)) (b_parse_bike g_is_bike g_read_int) := by
  have nd := sc_parse_bike.nd
  have hu := room_u hr
  exact ss_cons (s_if (t_not (t_val (j_isi G.m_isinstance (by rfl) G.m_str (by rfl) PyProof.Rows.boot_str (j_var (i := 0) (by rfl) (by exact .inl rfl))))) (ss_cons (s_raise (by rfl) takes_cx G.x_ParseError (by rfl))
      (ss_nil)) (ss_nil))
      (ss_cons (s_asg (i := 1) nd (by rfl) (by exact .inl rfl) (j_tupleF G.m_tuple (by rfl) (ja_cons (JE.weak (j_comp (own := [("side", 2)]) (t := (.nm 2)) (by rfl) nd (i_seq (JE.weak (j_split (j_var (i := 0) (by rfl) (by exact .inl rfl)) (j_gstrE (l := .s) (G.s_SLASH) (by rfl)))) nofun) (by show BlkOk N_parse_bike (defScope (top 30)) _ _; exact ⟨rfl, by decide +kernel, by decide +kernel, by decide +kernel, by decide +kernel⟩) (by decide) (fun _ _ _ _ _ => (g_name (i := 2) nd (by rfl) (by exact .inl rfl) (by exact .inr rfl))) (fun _ _ _ _ _ => ts_nil) (fun _ _ _ _ _ => j_tupleF G.m_tuple (by rfl) (ja_cons (JE.weak (j_comp (own := [("part", 3)]) (t := (.nm 3)) (by rfl) nd (i_seq (JE.weak (j_split (j_var (i := 2) (by rfl) (by exact .inl rfl)) (j_gstrE (l := .s) (G.s_DASH) (by rfl)))) nofun) (by show BlkOk N_parse_bike (relS _ (defScope (top 30))) _ _; exact ⟨rfl, by decide +kernel, by decide +kernel, by decide +kernel, by decide +kernel⟩) (by decide) (fun _ _ _ _ _ => (g_name (i := 3) nd (by rfl) (by exact .inl rfl) (by exact .inr rfl))) (fun _ _ _ _ _ => ts_nil) (fun _ _ _ _ _ => j_call d_read_int takes0 hr (by rfl) (ja_cons (j_varS (i := 3) (by rfl) (by exact .inl rfl)) ja_nil)))) ja_nil)))) ja_nil)) (by exact .inl rfl))
      (ss_cons (s_if (t_not (t_val (j_call d_is_bike takes_cx hr (by rfl) (ja_cons (j_varS (i := 1) (by rfl) (by exact .inl rfl)) ja_nil)))) (ss_cons (s_raise (by rfl) takes_cx G.x_ParseError (by rfl))
      (ss_nil)) (ss_nil))
      (ss_cons (s_retV (i := 1) (by rfl) (by exact .inl rfl))
      (ss_nil))))
theorem sc_chart : FnScope N_chart ["bike"] (defScope (top 31)) := ⟨rfl, rfl, rfl, by decide +kernel, rfl, by decide +kernel, by decide +kernel⟩
theorem js_chart {P : Program} {w : World} {K : PySem.W.Frag} {mg : Str → Option Value} {base : Heap} {f : Addr} {cdv : Value} {A : Around} {outer : List Env} {s : Shared} {H : Hp} {E : XK} {k : Nat} {g_check_bike : List MP.D → Option Res} {g_find_ratio : List MP.D → Option Res} (G : Gm K mg) (d_check_bike : Df P w K mg base k "check_bike" g_check_bike) (d_find_ratio : Df P w K mg base k "find_ratio" g_find_ratio) (hr : Room k (cx P w K mg base N_chart "chart" (defScope (top 31)) f cdv A outer s H E).A) (F : List Addr) : JSs (cx P w K mg base N_chart "chart" (defScope (top 31)) f cdv A outer s H E) (WD E) F (defBody (top 31)) (b_chart g_check_bike g_find_ratio) := by
  have nd := sc_chart.nd
  have hu := room_u hr
  exact ss_cons (s_expr (j_call d_check_bike takes_cx hr (by rfl) (ja_cons (j_varS (i := 0) (by rfl) (by exact .inr (.inl rfl))) ja_nil)))
      (ss_cons (s_own (i := 1) nd (by rfl) (by exact .inl rfl) (j_lst ja_nil) (by exact .inl rfl))
      (ss_cons (s_for pass_cx (by rfl) (i_rng1 (l := .s) (by rfl) G.m_range (j_lenF G.m_len (by rfl) (ja_cons (JE.weak (j_idx (j_var (i := 0) (by rfl) (by exact .inr (.inl rfl))) (j_int (l := .s)) (by intro _ _; rfl))) ja_nil))) (g_name (i := 2) nd (by rfl) (by exact .inr rfl) (by exact .inl rfl)) (ss_cons (s_asgLc (i := 3) (own := [("ring", 4)]) (t := (.nm 4)) (by rfl) nd (by rfl) (by rfl) (by exact sw_true rfl rfl rfl rfl) (i_rng1 (l := .w) (by rfl) G.m_range (j_lenF G.m_len (by rfl) (ja_cons (JE.weak (j_idx (j_var (i := 0) (by rfl) (by exact .inr (.inl rfl))) (j_int (l := .s)) (by intro _ _; rfl))) ja_nil))) (by show BlkOk N_chart (defScope (top 31)) _ _; exact ⟨rfl, by decide +kernel, by decide +kernel, by decide +kernel, by decide +kernel⟩) (by decide) (fun _ _ _ _ _ => (g_name (i := 4) nd (by rfl) (by exact .inl rfl) (by exact .inr rfl))) (fun _ _ _ _ _ => ts_nil) (fun _ _ _ _ _ => j_call d_find_ratio takes0 hr (by rfl) (ja_cons (j_varS (i := 0) (by rfl) (by exact .inr (.inl rfl))) (ja_cons (j_tup (l := .s) (ja_cons (j_varS (i := 4) (by rfl) (by exact .inl rfl)) (ja_cons (j_varS (i := 2) (by rfl) (by exact .inr (.inl rfl))) ja_nil))) ja_nil))))
      (ss_cons (s_app (i := 1) (by rfl) (by exact .inl rfl) (j_join (j_gstrE (l := .s) (G.s_SPACE) (by rfl)) (j_comp (own := [("above", 5), ("below", 6)]) (t := (.tp [5, 6])) (by rfl) nd (i_seq (j_var (i := 3) (by rfl) (by exact .inl rfl)) nofun) (by show BlkOk N_chart (defScope (top 31)) _ _; exact ⟨rfl, by decide +kernel, by decide +kernel, by decide +kernel, by decide +kernel⟩) (by decide) (fun _ _ _ _ _ => (g_tup (by rfl) (gs_cons (g_name (i := 5) nd (by rfl) (by exact .inl rfl) (by exact .inr rfl)) (gs_cons (g_name (i := 6) nd (by rfl) (by exact .inl rfl) (by exact .inr rfl)) gs_nil)))) (fun _ _ _ _ _ => ts_nil) (fun _ _ _ _ _ => j_add (l := .s) (j_add (l := .s) (j_strF G.m_str (by rfl) (ja_cons (j_var (i := 5) (by rfl) (by exact .inl rfl)) ja_nil)) (j_gstrE (l := .s) (G.s_COLON) (by rfl))) (j_strF G.m_str (by rfl) (ja_cons (j_var (i := 6) (by rfl) (by exact .inl rfl)) ja_nil))))))
      (ss_nil))))
      (ss_cons (s_retV (i := 1) (by rfl) (by exact .inl rfl))
      (ss_nil))))
theorem sc_read_ratio : FnScope N_read_ratio ["text"] (defScope (top 32)) := ⟨rfl, rfl, rfl, by decide +kernel, rfl, by decide +kernel, by decide +kernel⟩
theorem js_read_ratio {P : Program} {w : World} {K : PySem.W.Frag} {mg : Str → Option Value} {base : Heap} {f : Addr} {cdv : Value} {A : Around} {outer : List Env} {s : Shared} {H : Hp} {E : XK} {k : Nat} {g_divisor : List MP.D → Option Res} {g_read_int : List MP.D → Option Res} (G : Gm K mg) (d_divisor : Df P w K mg base k "divisor" g_divisor) (d_read_int : Df P w K mg base k "read_int" g_read_int) (hr : Room k (cx P w K mg base N_read_ratio "read_ratio" (defScope (top 32)) f cdv A outer s H E).A) (F : List Addr) : JSs (cx P w K mg base N_read_ratio "read_ratio" (defScope (top 32)) f cdv A outer s H E) (WD E) F (defBody (top 32)) (b_read_ratio g_divisor g_read_int) := by
  have nd := sc_read_ratio.nd
  have hu := room_u hr
  exact ss_cons (s_asgLc (i := 1) (own := [("part", 2)]) (t := (.nm 2)) (by rfl) nd (by rfl) (by rfl) (by exact sw_true rfl rfl rfl rfl) (i_seq (JE.weak (j_split (j_var (i := 0) (by rfl) (by exact .inl rfl)) (j_gstrE (l := .s) (G.s_COLON) (by rfl)))) nofun) (by show BlkOk N_read_ratio (defScope (top 32)) _ _; exact ⟨rfl, by decide +kernel, by decide +kernel, by decide +kernel, by decide +kernel⟩) (by decide) (fun _ _ _ _ _ => (g_name (i := 2) nd (by rfl) (by exact .inl rfl) (by exact .inr rfl))) (fun _ _ _ _ _ => ts_nil) (fun _ _ _ _ _ => j_call d_read_int takes0 hr (by rfl) (ja_cons (j_varS (i := 2) (by rfl) (by exact .inl rfl)) ja_nil)))
      (ss_cons (s_if (t_bool (w_or (t_cmpK (c_ne hu) (j_lenF G.m_len (by rfl) (ja_cons (j_var (i := 1) (by rfl) (by exact .inl rfl)) ja_nil)) (j_int (l := .s)) (nomark _)) (w_or (t_cmpK (c_in hu) (j_int (l := .s)) (j_var (i := 1) (by rfl) (by exact .inl rfl)) (by with_unfolding_all rfl)) (w_or1 (t_cmpK (c_ne hu) (j_call d_divisor takes_cx hr (by rfl) (ja_cons (j_idx (j_var (i := 1) (by rfl) (by exact .inl rfl)) (j_int (l := .s)) (by intro _ _; rfl)) (ja_cons (j_idx (j_var (i := 1) (by rfl) (by exact .inl rfl)) (j_int (l := .s)) (by intro _ _; rfl)) ja_nil))) (j_int (l := .s)) (nomark _)))))) (ss_cons (s_raise (by rfl) takes_cx G.x_ParseError (by rfl))
      (ss_nil)) (ss_nil))
      (ss_cons (s_ret (j_tup (l := .s) (ja_cons (j_idx (j_var (i := 1) (by rfl) (by exact .inl rfl)) (j_int (l := .s)) (by intro _ _; rfl)) (ja_cons (j_idx (j_var (i := 1) (by rfl) (by exact .inl rfl)) (j_int (l := .s)) (by intro _ _; rfl)) ja_nil))))
      (ss_nil)))
theorem sc_read_chart : FnScope N_read_chart ["rows"] (defScope (top 33)) := ⟨rfl, rfl, rfl, by decide +kernel, rfl, by decide +kernel, by decide +kernel⟩
theorem js_read_chart {P : Program} {w : World} {K : PySem.W.Frag} {mg : Str → Option Value} {base : Heap} {f : Addr} {cdv : Value} {A : Around} {outer : List Env} {s : Shared} {H : Hp} {E : XK} {k : Nat} {g_read_ratio : List MP.D → Option Res} (G : Gm K mg) (d_read_ratio : Df P w K mg base k "read_ratio" g_read_ratio) (hr : Room k (cx P w K mg base N_read_chart "read_chart" (defScope (top 33)) f cdv A outer s H E).A) (F : List Addr) : JSs (cx P w K mg base N_read_chart "read_chart" (defScope (top 33)) f cdv A outer s H E) (WD E) F (defBody (top 33)) (b_read_chart g_read_ratio) := by
  have nd := sc_read_chart.nd
  have hu := room_u hr
  exact ss_cons (s_if (t_bool (w_or (t_not (t_val (j_isi G.m_isinstance (by rfl) G.m_list (by rfl) PyProof.Rows.boot_list (j_var (i := 0) (by rfl) (by exact .inl rfl))))) (w_or1 (t_not (t_val (j_allF (by rfl) G.m_all (by rfl) (ja_cons (JE.weak (j_comp (own := [("row", 2)]) (t := (.nm 2)) (by rfl) nd (i_seq (j_var (i := 0) (by rfl) (by exact .inl rfl)) nofun) (by show BlkOk N_read_chart (defScope (top 33)) _ _; exact ⟨rfl, by decide +kernel, by decide +kernel, by decide +kernel, by decide +kernel⟩) (by decide) (fun _ _ _ _ _ => (g_name (i := 2) nd (by rfl) (by exact .inl rfl) (by exact .inr rfl))) (fun _ _ _ _ _ => ts_nil) (fun _ _ _ _ _ => j_isi G.m_isinstance (by rfl) G.m_str (by rfl) PyProof.Rows.boot_str (j_var (i := 2) (by rfl) (by exact .inl rfl))))) ja_nil))))))) (ss_cons (s_raise (by rfl) takes_cx G.x_ParseError (by rfl))
      (ss_nil)) (ss_nil))
      (ss_cons (s_asg (i := 1) nd (by rfl) (by exact .inr rfl) (JE.strong (j_compX (own := [("row", 2)]) (t := (.nm 2)) (frm_cx) (takesL_of (by rfl) takes_cx) (by rfl) nd (i_seq (j_var (i := 0) (by rfl) (by exact .inl rfl)) nofun) (by show BlkOk N_read_chart (defScope (top 33)) _ _; exact ⟨rfl, by decide +kernel, by decide +kernel, by decide +kernel, by decide +kernel⟩) (by decide) (fun _ _ _ _ _ _ tkl => (g_name (i := 2) nd (by rfl) (by exact .inl rfl) (by exact .inr rfl))) (fun _ _ _ _ _ _ tkl => ts_nil) (fun _ _ _ _ _ _ tkl => JE.strong (j_compX (own := [("part", 3)]) (t := (.nm 3)) (Frm.blk (frm_cx)) tkl (by rfl) nd (i_seq (JE.weak (j_split (j_var (i := 2) (by rfl) (by exact .inl rfl)) (j_gstrE (l := .s) (G.s_SPACE) (by rfl)))) nofun) (by show BlkOk N_read_chart (relS _ (defScope (top 33))) _ _; exact ⟨rfl, by decide +kernel, by decide +kernel, by decide +kernel, by decide +kernel⟩) (by decide) (fun _ _ _ _ _ _ tkl => (g_name (i := 3) nd (by rfl) (by exact .inl rfl) (by exact .inr rfl))) (fun _ _ _ _ _ _ tkl => ts_nil) (fun _ _ _ _ _ _ tkl => j_callL d_read_ratio (Frm.blk (Frm.blk (frm_cx))) tkl hr (by rfl) (ja_cons (j_varS (i := 3) (by rfl) (by exact .inl rfl)) ja_nil)))))) (by exact .inl rfl))
      (ss_cons (s_if (t_not (t_val (j_allF (by rfl) G.m_all (by rfl) (ja_cons (JE.weak (j_comp (own := [("row", 2)]) (t := (.nm 2)) (by rfl) nd (i_seq (j_var (i := 1) (by rfl) (by exact .inr (.inl rfl))) nofun) (by show BlkOk N_read_chart (defScope (top 33)) _ _; exact ⟨rfl, by decide +kernel, by decide +kernel, by decide +kernel, by decide +kernel⟩) (by decide) (fun _ _ _ _ _ => (g_name (i := 2) nd (by rfl) (by exact .inl rfl) (by exact .inr rfl))) (fun _ _ _ _ _ => ts_nil) (fun _ _ _ _ _ => j_cmpK (c_eq hu) (j_lenF G.m_len (by rfl) (ja_cons (j_var (i := 2) (by rfl) (by exact .inl rfl)) ja_nil)) (j_lenF G.m_len (by rfl) (ja_cons (JE.weak (j_idx (j_var (i := 1) (by rfl) (by exact .inr (.inl rfl))) (j_int (l := .s)) (by intro _ _; rfl))) ja_nil)) (nomark _)))) ja_nil)))) (ss_cons (s_raise (by rfl) takes_cx G.x_ParseError (by rfl))
      (ss_nil)) (ss_nil))
      (ss_cons (s_retV (i := 1) (by rfl) (by exact .inr (.inl rfl)))
      (ss_nil))))
theorem sc__law_drawn : FnScope N__law_drawn ["script", "k", "many"] (defScope (top 35)) := ⟨rfl, rfl, rfl, by decide +kernel, rfl, by decide +kernel, by decide +kernel⟩
theorem js__law_drawn {P : Program} {w : World} {K : PySem.W.Frag} {mg : Str → Option Value} {base : Heap} {f : Addr} {cdv : Value} {A : Around} {outer : List Env} {s : Shared} {H : Hp} {E : XK} {k : Nat} (G : Gm K mg) (hr : Room k (cx P w K mg base N__law_drawn "_law_drawn" (defScope (top 35)) f cdv A outer s H E).A) (F : List Addr) : JSs (cx P w K mg base N__law_drawn "_law_drawn" (defScope (top 35)) f cdv A outer s H E) (WD E) F (defBody (top 35)) (b__law_drawn) := by
  have nd := sc__law_drawn.nd
  have hu := room_u hr
  exact ss_cons (s_asg (i := 3) nd (by rfl) (by exact .inl rfl) (j_mul (l := .s) (j_int (l := .s)) (j_var (i := 1) (by rfl) (by exact .inl rfl))) (by exact .inl rfl))
      (ss_cons (s_if (t_cmpK (c_ne hu) (j_var (i := 0) (by rfl) (by exact .inl rfl)) (j_lst ja_nil) (nomark _)) (ss_cons (s_asg (i := 3) nd (by rfl) (by exact .inl rfl) (j_idx (j_var (i := 0) (by rfl) (by exact .inl rfl)) (j_mod (l := .s) (j_var (i := 1) (by rfl) (by exact .inl rfl)) (j_lenF G.m_len (by rfl) (ja_cons (j_var (i := 0) (by rfl) (by exact .inl rfl)) ja_nil))) (by intro _ _; rfl)) (by exact .inl rfl))
      (ss_cons (s_asg (i := 4) nd (by rfl) (by exact .inl rfl) (j_fdiv (l := .s) (j_var (i := 1) (by rfl) (by exact .inl rfl)) (j_lenF G.m_len (by rfl) (ja_cons (j_var (i := 0) (by rfl) (by exact .inl rfl)) ja_nil))) (by exact .inl rfl))
      (ss_cons (s_if (t_bool (w_and (t_cmpK c_ge (j_var (i := 3) (by rfl) (by exact .inl rfl)) (j_pow (l := .s) (j_int (l := .s)) (j_int (l := .s))) (nomark _)) (w_and1 (t_cmpK c_lt (j_var (i := 4) (by rfl) (by exact .inl rfl)) (j_int (l := .s)) (nomark _))))) (ss_cons (s_asg (i := 5) nd (by rfl) (by exact .inl rfl) (j_fdiv (l := .s) (j_var (i := 3) (by rfl) (by exact .inl rfl)) (j_pow (l := .s) (j_int (l := .s)) (j_int (l := .s)))) (by exact .inl rfl))
      (ss_cons (s_while 1000000000000 pass_cx (t_bool (w_and (t_cmpK c_gt (j_var (i := 5) (by rfl) (by exact .inl rfl)) (j_int (l := .s)) (nomark _)) (w_and1 (t_cmpK c_gt (j_var (i := 4) (by rfl) (by exact .inl rfl)) (j_int (l := .s)) (nomark _))))) (ss_cons (s_asg (i := 5) nd (by rfl) (by exact .inl rfl) (j_fdiv (l := .s) (j_var (i := 5) (by rfl) (by exact .inl rfl)) (j_int (l := .s))) (by exact .inl rfl))
      (ss_cons (s_asg (i := 4) nd (by rfl) (by exact .inl rfl) (j_sub (l := .s) (j_var (i := 4) (by rfl) (by exact .inl rfl)) (j_int (l := .s))) (by exact .inl rfl))
      (ss_nil))))
      (ss_cons (s_if (t_cmpK c_gt (j_var (i := 5) (by rfl) (by exact .inl rfl)) (j_int (l := .s)) (nomark _)) (ss_cons (s_ret (j_mod (l := .s) (j_mod (l := .s) (j_var (i := 5) (by rfl) (by exact .inl rfl)) (j_int (l := .s))) (j_var (i := 2) (by rfl) (by exact .inl rfl))))
      (ss_nil)) (ss_nil))
      (ss_nil)))) (ss_nil))
      (ss_cons (s_asg (i := 3) nd (by rfl) (by exact .inl rfl) (j_add (l := .s) (j_var (i := 3) (by rfl) (by exact .inl rfl)) (j_mul (l := .s) (j_int (l := .s)) (j_fdiv (l := .s) (j_var (i := 1) (by rfl) (by exact .inl rfl)) (j_lenF G.m_len (by rfl) (ja_cons (j_var (i := 0) (by rfl) (by exact .inl rfl)) ja_nil))))) (by exact .inl rfl))
      (ss_nil))))) (ss_nil))
      (ss_cons (s_asg (i := 3) nd (by rfl) (by exact .inl rfl) (j_mod (l := .s) (j_add (l := .s) (j_mul (l := .s) (j_mod (l := .s) (j_var (i := 3) (by rfl) (by exact .inl rfl)) (j_int (l := .s))) (j_int (l := .s))) (j_mul (l := .s) (j_int (l := .s)) (j_add (l := .s) (j_var (i := 1) (by rfl) (by exact .inl rfl)) (j_int (l := .s))))) (j_int (l := .s))) (by exact .inl rfl))
      (ss_cons (s_asg (i := 3) nd (by rfl) (by exact .inl rfl) (j_mod (l := .s) (j_add (l := .s) (j_mul (l := .s) (j_var (i := 3) (by rfl) (by exact .inl rfl)) (j_var (i := 3) (by rfl) (by exact .inl rfl))) (j_fdiv (l := .s) (j_var (i := 3) (by rfl) (by exact .inl rfl)) (j_int (l := .s)))) (j_int (l := .s))) (by exact .inl rfl))
      (ss_cons (s_ret (j_mod (l := .s) (j_fdiv (l := .s) (j_mod (l := .s) (j_add (l := .s) (j_mul (l := .s) (j_var (i := 3) (by rfl) (by exact .inl rfl)) (j_var (i := 3) (by rfl) (by exact .inl rfl))) (j_fdiv (l := .s) (j_var (i := 3) (by rfl) (by exact .inl rfl)) (j_int (l := .s)))) (j_int (l := .s))) (j_int (l := .s))) (j_var (i := 2) (by rfl) (by exact .inl rfl))))
      (ss_nil)))))
theorem sc__law_bike : FnScope N__law_bike ["script", "at"] (defScope (top 36)) := ⟨rfl, rfl, rfl, by decide +kernel, rfl, by decide +kernel, by decide +kernel⟩
theorem js__law_bike {P : Program} {w : World} {K : PySem.W.Frag} {mg : Str → Option Value} {base : Heap} {f : Addr} {cdv : Value} {A : Around} {outer : List Env} {s : Shared} {H : Hp} {E : XK} {k : Nat} {g__law_drawn : List MP.D → Option Res} (G : Gm K mg) (d__law_drawn : Df P w K mg base k "_law_drawn" g__law_drawn) (hr : Room k (cx P w K mg base N__law_bike "_law_bike" (defScope (top 36)) f cdv A outer s H E).A) (F : List Addr) : JSs (cx P w K mg base N__law_bike "_law_bike" (defScope (top 36)) f cdv A outer s H E) (WD E) F (defBody (top 36)) (b__law_bike g__law_drawn) := by
  have nd := sc__law_bike.nd
  have hu := room_u hr
  exact ss_cons (s_par2 (i := 2) (j := 3) (by rfl) nd (by rfl) (by rfl) (by decide) (by rfl) (by rfl) (m_own (j_lst ja_nil) (m_own (j_lst ja_nil) m_nil)) (by rfl))
      (ss_cons (s_for pass_cx (by rfl) (i_rng1 (l := .s) (by rfl) G.m_range (j_add (l := .s) (j_int (l := .s)) (j_call d__law_drawn takes_cx hr (by rfl) (ja_cons (j_varS (i := 0) (by rfl) (by exact .inl rfl)) (ja_cons (j_varS (i := 1) (by rfl) (by exact .inl rfl)) (ja_cons (j_int (l := .s)) ja_nil)))))) (g_name (i := 4) nd (by rfl) (by exact .inl rfl) (by exact .inl rfl)) (ss_cons (s_asg (i := 5) nd (by rfl) (by exact .inl rfl) (JE.strong (j_lst (ja_cons (j_int (l := .s)) (ja_cons (j_int (l := .s)) (ja_cons (j_int (l := .s)) (ja_cons (j_int (l := .s)) (ja_cons (j_int (l := .s)) (ja_cons (j_int (l := .s)) (ja_cons (j_int (l := .s)) (ja_cons (j_add (l := .s) (j_int (l := .s)) (j_call d__law_drawn takes_cx hr (by rfl) (ja_cons (j_varS (i := 0) (by rfl) (by exact .inl rfl)) (ja_cons (j_add (l := .s) (j_add (l := .s) (j_var (i := 1) (by rfl) (by exact .inl rfl)) (j_int (l := .s))) (j_var (i := 4) (by rfl) (by exact .inl rfl))) (ja_cons (j_int (l := .s)) ja_nil))))) ja_nil)))))))))) (by exact .inl rfl))
      (ss_cons (s_app (i := 2) (by rfl) (by exact .inl rfl) (j_idx (j_var (i := 5) (by rfl) (by exact .inl rfl)) (j_call d__law_drawn takes_cx hr (by rfl) (ja_cons (j_varS (i := 0) (by rfl) (by exact .inl rfl)) (ja_cons (j_add (l := .s) (j_add (l := .s) (j_var (i := 1) (by rfl) (by exact .inl rfl)) (j_int (l := .s))) (j_var (i := 4) (by rfl) (by exact .inl rfl))) (ja_cons (j_int (l := .s)) ja_nil)))) (by intro _ _; rfl)))
      (ss_nil))))
      (ss_cons (s_for pass_cx (by rfl) (i_rng1 (l := .s) (by rfl) G.m_range (j_add (l := .s) (j_int (l := .s)) (j_call d__law_drawn takes_cx hr (by rfl) (ja_cons (j_varS (i := 0) (by rfl) (by exact .inl rfl)) (ja_cons (j_add (l := .s) (j_var (i := 1) (by rfl) (by exact .inl rfl)) (j_int (l := .s))) (ja_cons (j_int (l := .s)) ja_nil)))))) (g_name (i := 4) nd (by rfl) (by exact .inl rfl) (by exact .inl rfl)) (ss_cons (s_asg (i := 5) nd (by rfl) (by exact .inl rfl) (JE.strong (j_lst (ja_cons (j_int (l := .s)) (ja_cons (j_int (l := .s)) (ja_cons (j_int (l := .s)) (ja_cons (j_int (l := .s)) (ja_cons (j_int (l := .s)) (ja_cons (j_int (l := .s)) (ja_cons (j_int (l := .s)) (ja_cons (j_add (l := .s) (j_int (l := .s)) (j_call d__law_drawn takes_cx hr (by rfl) (ja_cons (j_varS (i := 0) (by rfl) (by exact .inl rfl)) (ja_cons (j_add (l := .s) (j_add (l := .s) (j_var (i := 1) (by rfl) (by exact .inl rfl)) (j_int (l := .s))) (j_var (i := 4) (by rfl) (by exact .inl rfl))) (ja_cons (j_int (l := .s)) ja_nil))))) ja_nil)))))))))) (by exact .inl rfl))
      (ss_cons (s_app (i := 3) (by rfl) (by exact .inl rfl) (j_idx (j_var (i := 5) (by rfl) (by exact .inl rfl)) (j_call d__law_drawn takes_cx hr (by rfl) (ja_cons (j_varS (i := 0) (by rfl) (by exact .inl rfl)) (ja_cons (j_add (l := .s) (j_add (l := .s) (j_var (i := 1) (by rfl) (by exact .inl rfl)) (j_int (l := .s))) (j_var (i := 4) (by rfl) (by exact .inl rfl))) (ja_cons (j_int (l := .s)) ja_nil)))) (by intro _ _; rfl)))
      (ss_nil))))
      (ss_cons (s_ret (j_tup (l := .s) (ja_cons (j_tupleF G.m_tuple (by rfl) (ja_cons (JE.weak (j_usort (by rfl) G.m_sorted G.m_set (by rfl) (by rfl) (ja_cons (j_var (i := 2) (by rfl) (by exact .inl rfl)) ja_nil))) ja_nil)) (ja_cons (j_tupleF G.m_tuple (by rfl) (ja_cons (JE.weak (j_usort (by rfl) G.m_sorted G.m_set (by rfl) (by rfl) (ja_cons (j_var (i := 3) (by rfl) (by exact .inl rfl)) ja_nil))) ja_nil)) ja_nil))))
      (ss_nil))))
theorem sc__law_least : FnScope N__law_least ["above", "below"] (defScope (top 37)) := ⟨rfl, rfl, rfl, by decide +kernel, rfl, by decide +kernel, by decide +kernel⟩
theorem js__law_least {P : Program} {w : World} {K : PySem.W.Frag} {mg : Str → Option Value} {base : Heap} {f : Addr} {cdv : Value} {A : Around} {outer : List Env} {s : Shared} {H : Hp} {E : XK} {k : Nat} (G : Gm K mg) (hr : Room k (cx P w K mg base N__law_least "_law_least" (defScope (top 37)) f cdv A outer s H E).A) (F : List Addr) : JSs (cx P w K mg base N__law_least "_law_least" (defScope (top 37)) f cdv A outer s H E) (WD E) F (defBody (top 37)) (b__law_least) := by
  have nd := sc__law_least.nd
  have hu := room_u hr
  exact ss_cons (s_par2 (i := 2) (j := 3) (by rfl) nd (by rfl) (by rfl) (by decide) (by rfl) (by rfl) (m_dat (j_varS (i := 0) (by rfl) (by exact .inl rfl)) (m_dat (j_varS (i := 1) (by rfl) (by exact .inl rfl)) m_nil)) (by rfl))
      (ss_cons (s_while 1000000000000 pass_cx (t_cmpK c_gt (j_var (i := 3) (by rfl) (by exact .inl rfl)) (j_int (l := .s)) (nomark _)) (ss_cons (s_par2 (i := 2) (j := 3) (by rfl) nd (by rfl) (by rfl) (by decide) (by rfl) (by rfl) (m_dat (j_varS (i := 3) (by rfl) (by exact .inl rfl)) (m_dat (j_mod (l := .s) (j_var (i := 2) (by rfl) (by exact .inl rfl)) (j_var (i := 3) (by rfl) (by exact .inl rfl))) m_nil)) (by rfl))
      (ss_nil)))
      (ss_cons (s_ret (j_tup (l := .s) (ja_cons (j_fdiv (l := .s) (j_var (i := 0) (by rfl) (by exact .inl rfl)) (j_var (i := 2) (by rfl) (by exact .inl rfl))) (ja_cons (j_fdiv (l := .s) (j_var (i := 1) (by rfl) (by exact .inl rfl)) (j_var (i := 2) (by rfl) (by exact .inl rfl))) ja_nil))))
      (ss_nil)))
theorem sc__law_badbike : FnScope N__law_badbike ["script", "at"] (defScope (top 38)) := ⟨rfl, rfl, rfl, by decide +kernel, rfl, by decide +kernel, by decide +kernel⟩
theorem js__law_badbike {P : Program} {w : World} {K : PySem.W.Frag} {mg : Str → Option Value} {base : Heap} {f : Addr} {cdv : Value} {A : Around} {outer : List Env} {s : Shared} {H : Hp} {E : XK} {k : Nat} {g__law_drawn : List MP.D → Option Res} (G : Gm K mg) (d__law_drawn : Df P w K mg base k "_law_drawn" g__law_drawn) (hr : Room k (cx P w K mg base N__law_badbike "_law_badbike" (defScope (top 38)) f cdv A outer s H E).A) (F : List Addr) : JSs (cx P w K mg base N__law_badbike "_law_badbike" (defScope (top 38)) f cdv A outer s H E) (WD E) F (defBody (top 38)) (b__law_badbike g__law_drawn) := by
  have nd := sc__law_badbike.nd
  have hu := room_u hr
  exact ss_cons (s_asg (i := 2) nd (by rfl) (by exact .inl rfl) (JE.strong (j_lst (ja_cons (j_non (l := .s)) (ja_cons (j_tup (l := .s) ja_nil) (ja_cons (j_tup (l := .s) (ja_cons (j_tup (l := .s) (ja_cons (j_int (l := .s)) ja_nil)) ja_nil)) (ja_cons (j_tup (l := .s) (ja_cons (j_tup (l := .s) ja_nil) (ja_cons (j_tup (l := .s) (ja_cons (j_int (l := .s)) ja_nil)) ja_nil))) (ja_cons (j_tup (l := .s) (ja_cons (j_tup (l := .s) (ja_cons (j_int (l := .s)) ja_nil)) (ja_cons (j_tup (l := .s) ja_nil) ja_nil))) (ja_cons (j_tup (l := .s) (ja_cons (j_tup (l := .s) (ja_cons (j_int (l := .s)) (ja_cons (j_int (l := .s)) ja_nil))) (ja_cons (j_tup (l := .s) (ja_cons (j_int (l := .s)) ja_nil)) ja_nil))) (ja_cons (j_tup (l := .s) (ja_cons (j_tup (l := .s) (ja_cons (j_int (l := .s)) ja_nil)) (ja_cons (j_tup (l := .s) (ja_cons (j_int (l := .s)) (ja_cons (j_int (l := .s)) ja_nil))) ja_nil))) ja_nil))))))))) (by exact .inl rfl))
      (ss_cons (s_asg (i := 2) nd (by rfl) (by exact .inl rfl) (j_add (l := .s) (j_var (i := 2) (by rfl) (by exact .inl rfl)) (j_lst (ja_cons (j_tup (l := .s) (ja_cons (j_tup (l := .s) (ja_cons (j_int (l := .s)) ja_nil)) (ja_cons (j_tup (l := .s) (ja_cons (j_int (l := .s)) ja_nil)) ja_nil))) ja_nil))) (by exact .inl rfl))
      (ss_cons (s_asg (i := 2) nd (by rfl) (by exact .inl rfl) (j_add (l := .s) (j_var (i := 2) (by rfl) (by exact .inl rfl)) (j_lst (ja_cons (j_tup (l := .s) (ja_cons (j_tup (l := .s) (ja_cons (j_int (l := .s)) ja_nil)) (ja_cons (j_tup (l := .s) (ja_cons (j_int (l := .s)) ja_nil)) ja_nil))) (ja_cons (j_tup (l := .s) (ja_cons (j_tup (l := .s) (ja_cons (j_int (l := .s)) ja_nil)) (ja_cons (j_tup (l := .s) (ja_cons (j_int (l := .s)) ja_nil)) ja_nil))) (ja_cons (j_tup (l := .s) (ja_cons (j_tup (l := .s) (ja_cons (j_int (l := .s)) ja_nil)) (ja_cons (j_tup (l := .s) (ja_cons (j_int (l := .s)) ja_nil)) ja_nil))) (ja_cons (JE.strong (j_lst (ja_cons (j_tup (l := .s) (ja_cons (j_int (l := .s)) ja_nil)) (ja_cons (j_tup (l := .s) (ja_cons (j_int (l := .s)) ja_nil)) ja_nil)))) (ja_cons (j_tup (l := .s) (ja_cons (j_tup (l := .s) (ja_cons (j_int (l := .s)) (ja_cons (j_str (l := .s)) ja_nil))) (ja_cons (j_tup (l := .s) (ja_cons (j_int (l := .s)) ja_nil)) ja_nil))) ja_nil))))))) (by exact .inl rfl))
      (ss_cons (s_ret (j_idx (j_add (l := .s) (j_var (i := 2) (by rfl) (by exact .inl rfl)) (j_lst (ja_cons (j_tup (l := .s) (ja_cons (j_tup (l := .s) (ja_cons (j_bl (l := .s)) ja_nil)) (ja_cons (j_tup (l := .s) (ja_cons (j_int (l := .s)) ja_nil)) ja_nil))) ja_nil))) (j_call d__law_drawn takes_cx hr (by rfl) (ja_cons (j_varS (i := 0) (by rfl) (by exact .inl rfl)) (ja_cons (j_varS (i := 1) (by rfl) (by exact .inl rfl)) (ja_cons (j_int (l := .s)) ja_nil)))) (by intro _ _; rfl)))
      (ss_nil))))
theorem sc__law_text : FnScope N__law_text ["bike"] (defScope (top 39)) := ⟨rfl, rfl, rfl, by decide +kernel, rfl, by decide +kernel, by decide +kernel⟩
theorem js__law_text {P : Program} {w : World} {K : PySem.W.Frag} {mg : Str → Option Value} {base : Heap} {f : Addr} {cdv : Value} {A : Around} {outer : List Env} {s : Shared} {H : Hp} {E : XK} {k : Nat} (G : Gm K mg) (hr : Room k (cx P w K mg base N__law_text "_law_text" (defScope (top 39)) f cdv A outer s H E).A) (F : List Addr) : JSs (cx P w K mg base N__law_text "_law_text" (defScope (top 39)) f cdv A outer s H E) (WD E) F (defBody (top 39)) (b__law_text) := by
  have nd := sc__law_text.nd
  have hu := room_u hr
  exact ss_cons (s_ret (j_add (l := .s) (j_add (l := .s) (j_join (j_str (l := .s)) (j_comp (own := [("teeth", 1)]) (t := (.nm 1)) (by rfl) nd (i_seq (JE.weak (j_idx (j_var (i := 0) (by rfl) (by exact .inl rfl)) (j_int (l := .s)) (by intro _ _; rfl))) nofun) (by show BlkOk N__law_text (defScope (top 39)) _ _; exact ⟨rfl, by decide +kernel, by decide +kernel, by decide +kernel, by decide +kernel⟩) (by decide) (fun _ _ _ _ _ => (g_name (i := 1) nd (by rfl) (by exact .inl rfl) (by exact .inr rfl))) (fun _ _ _ _ _ => ts_nil) (fun _ _ _ _ _ => j_strF G.m_str (by rfl) (ja_cons (j_var (i := 1) (by rfl) (by exact .inl rfl)) ja_nil)))) (j_str (l := .s))) (j_join (j_str (l := .s)) (j_comp (own := [("teeth", 1)]) (t := (.nm 1)) (by rfl) nd (i_seq (JE.weak (j_idx (j_var (i := 0) (by rfl) (by exact .inl rfl)) (j_int (l := .s)) (by intro _ _; rfl))) nofun) (by show BlkOk N__law_text (defScope (top 39)) _ _; exact ⟨rfl, by decide +kernel, by decide +kernel, by decide +kernel, by decide +kernel⟩) (by decide) (fun _ _ _ _ _ => (g_name (i := 1) nd (by rfl) (by exact .inl rfl) (by exact .inr rfl))) (fun _ _ _ _ _ => ts_nil) (fun _ _ _ _ _ => j_strF G.m_str (by rfl) (ja_cons (j_var (i := 1) (by rfl) (by exact .inl rfl)) ja_nil))))))
      (ss_nil)
theorem sc__law_row : FnScope N__law_row ["ratios"] (defScope (top 40)) := ⟨rfl, rfl, rfl, by decide +kernel, rfl, by decide +kernel, by decide +kernel⟩
theorem js__law_row {P : Program} {w : World} {K : PySem.W.Frag} {mg : Str → Option Value} {base : Heap} {f : Addr} {cdv : Value} {A : Around} {outer : List Env} {s : Shared} {H : Hp} {E : XK} {k : Nat} (G : Gm K mg) (hr : Room k (cx P w K mg base N__law_row "_law_row" (defScope (top 40)) f cdv A outer s H E).A) (F : List Addr) : JSs (cx P w K mg base N__law_row "_law_row" (defScope (top 40)) f cdv A outer s H E) (WD E) F (defBody (top 40)) (b__law_row) := by
  have nd := sc__law_row.nd
  have hu := room_u hr
  exact ss_cons (s_ret (j_join (j_str (l := .s)) (j_comp (own := [("above", 1), ("below", 2)]) (t := (.tp [1, 2])) (by rfl) nd (i_seq (j_var (i := 0) (by rfl) (by exact .inl rfl)) nofun) (by show BlkOk N__law_row (defScope (top 40)) _ _; exact ⟨rfl, by decide +kernel, by decide +kernel, by decide +kernel, by decide +kernel⟩) (by decide) (fun _ _ _ _ _ => (g_tup (by rfl) (gs_cons (g_name (i := 1) nd (by rfl) (by exact .inl rfl) (by exact .inr rfl)) (gs_cons (g_name (i := 2) nd (by rfl) (by exact .inl rfl) (by exact .inr rfl)) gs_nil)))) (fun _ _ _ _ _ => ts_nil) (fun _ _ _ _ _ => j_add (l := .s) (j_add (l := .s) (j_strF G.m_str (by rfl) (ja_cons (j_var (i := 1) (by rfl) (by exact .inl rfl)) ja_nil)) (j_str (l := .s))) (j_strF G.m_str (by rfl) (ja_cons (j_var (i := 2) (by rfl) (by exact .inl rfl)) ja_nil))))))
      (ss_nil)
theorem sc__law_again : FnScope N__law_again ["way", "one"] (defScope (top 41)) := ⟨rfl, rfl, rfl, by decide +kernel, rfl, by decide +kernel, by decide +kernel⟩
theorem js__law_again {P : Program} {w : World} {K : PySem.W.Frag} {mg : Str → Option Value} {base : Heap} {f : Addr} {cdv : Value} {A : Around} {outer : List Env} {s : Shared} {H : Hp} {E : XK} {k : Nat} {g__law_row : List MP.D → Option Res} {g__law_text : List MP.D → Option Res} {g_parse_bike : List MP.D → Option Res} {g_read_chart : List MP.D → Option Res} (G : Gm K mg) (d__law_row : Df P w K mg base k "_law_row" g__law_row) (d__law_text : Df P w K mg base k "_law_text" g__law_text) (d_parse_bike : Df P w K mg base k "parse_bike" g_parse_bike) (d_read_chart : Df P w K mg base k "read_chart" g_read_chart) (hr : Room k (cx P w K mg base N__law_again "_law_again" (defScope (top 41)) f cdv A outer s H E).A) (F : List Addr) : JSs (cx P w K mg base N__law_again "_law_again" (defScope (top 41)) f cdv A outer s H E) (WD E) F (defBody (top 41)) (b__law_again g__law_row g__law_text g_parse_bike g_read_chart) := by
  have nd := sc__law_again.nd
  have hu := room_u hr
  exact ss_cons (s_try (i := 2) (cl := clL) (by rfl) (by rfl) nd (by rfl) (by rfl) hr.hd G.xk (by rfl) takes_cx (fun W1 pn xe tk pw => ss_cons (s_if (t_cmpK (c_eq hu) (j_var (i := 0) (by rfl) (by exact .inl rfl)) (j_int (l := .s)) (nomark _)) (ss_cons (s_ret (j_call d__law_text tk hr (by rfl) (ja_cons (j_call d_parse_bike tk hr (by rfl) (ja_cons (j_varS (i := 1) (by rfl) (by exact .inl rfl)) ja_nil)) ja_nil)))
      (ss_nil)) (ss_nil))
      (ss_cons (s_ret (JE.strong (j_comp (own := [("row", 3)]) (t := (.nm 3)) (by rfl) nd (i_seq (JE.weak (j_call d_read_chart tk hr (by rfl) (ja_cons (j_varS (i := 1) (by rfl) (by exact .inl rfl)) ja_nil))) nofun) (by show BlkOk N__law_again (defScope (top 41)) _ _; exact ⟨rfl, by decide +kernel, by decide +kernel, by decide +kernel, by decide +kernel⟩) (by decide) (fun _ _ _ _ _ => (g_name (i := 3) nd (by rfl) (by exact .inl rfl) (by exact .inr rfl))) (fun _ _ _ _ _ => ts_nil) (fun _ _ _ _ _ => j_call d__law_row takes0 hr (by rfl) (ja_cons (j_varS (i := 3) (by rfl) (by exact .inl rfl)) ja_nil)))))
      (ss_nil))) (fun a oe pn x S => ss_cons (s_ret (j_ite (t_val (j_isx (l := .s) (i := 2) S G.xk G.x_ParseError G.m_isinstance (by rfl) (by exact .inl rfl) (by rfl) (by rfl))) (j_non (l := .s)) (j_str (l := .s))))
      (ss_nil)))
      (ss_nil)
theorem sc__law_rejected : FnScope N__law_rejected [] (defScope (top 42)) := ⟨rfl, rfl, rfl, by decide +kernel, rfl, by decide +kernel, by decide +kernel⟩
theorem js__law_rejected {P : Program} {w : World} {K : PySem.W.Frag} {mg : Str → Option Value} {base : Heap} {f : Addr} {cdv : Value} {A : Around} {outer : List Env} {s : Shared} {H : Hp} {E : XK} {k : Nat} {g__law_again : List MP.D → Option Res} {g_parse_bike : List MP.D → Option Res} {g_read_chart : List MP.D → Option Res} (G : Gm K mg) (d__law_again : Df P w K mg base k "_law_again" g__law_again) (d_parse_bike : Df P w K mg base k "parse_bike" g_parse_bike) (d_read_chart : Df P w K mg base k "read_chart" g_read_chart) (hr : Room k (cx P w K mg base N__law_rejected "_law_rejected" (defScope (top 42)) f cdv A outer s H E).A) (F : List Addr) : JSs (cx P w K mg base N__law_rejected "_law_rejected" (defScope (top 42)) f cdv A outer s H E) (WD E) F (defBody (top 42)) (b__law_rejected g__law_again g_parse_bike g_read_chart) := by
  have nd := sc__law_rejected.nd
  have hu := room_u hr
  exact ss_cons (s_asg (i := 0) nd (by rfl) (by exact .inl rfl) (JE.strong (j_lst (ja_cons (j_non (l := .s)) (ja_cons (j_int (l := .s)) (ja_cons (j_str (l := .s)) (ja_cons (j_str (l := .s)) (ja_cons (j_str (l := .s)) (ja_cons (j_str (l := .s)) (ja_cons (j_str (l := .s)) (ja_cons (j_str (l := .s)) (ja_cons (j_str (l := .s)) (ja_cons (j_str (l := .s)) (ja_cons (j_str (l := .s)) ja_nil))))))))))))) (by exact .inl rfl))
      (ss_cons (s_asg (i := 0) nd (by rfl) (by exact .inl rfl) (j_add (l := .s) (j_var (i := 0) (by rfl) (by exact .inl rfl)) (j_lst (ja_cons (j_str (l := .s)) (ja_cons (j_str (l := .s)) (ja_cons (j_str (l := .s)) (ja_cons (j_str (l := .s)) (ja_cons (j_str (l := .s)) ja_nil))))))) (by exact .inl rfl))
      (ss_cons (s_asg (i := 0) nd (by rfl) (by exact .inl rfl) (j_add (l := .s) (j_var (i := 0) (by rfl) (by exact .inl rfl)) (j_lst (ja_cons (j_str (l := .s)) (ja_cons (j_str (l := .s)) (ja_cons (j_str (l := .s)) (ja_cons (j_str (l := .s)) (ja_cons (j_str (l := .s)) (ja_cons (j_tup (l := .s) (ja_cons (j_str (l := .s)) ja_nil)) (ja_cons (j_str (l := .s)) ja_nil))))))))) (by exact .inl rfl))
      (ss_cons (s_asg (i := 0) nd (by rfl) (by exact .inl rfl) (j_add (l := .s) (j_var (i := 0) (by rfl) (by exact .inl rfl)) (j_lst (ja_cons (j_str (l := .s)) ja_nil))) (by exact .inl rfl))
      (ss_cons (s_if (t_cmpK (c_ne hu) (j_comp (own := [("one", 1)]) (t := (.nm 1)) (by rfl) nd (i_seq (j_var (i := 0) (by rfl) (by exact .inl rfl)) nofun) (by show BlkOk N__law_rejected (defScope (top 42)) _ _; exact ⟨rfl, by decide +kernel, by decide +kernel, by decide +kernel, by decide +kernel⟩) (by decide) (fun _ _ _ _ _ => (g_name (i := 1) nd (by rfl) (by exact .inl rfl) (by exact .inr rfl))) (fun _ _ _ _ _ => ts_one (t_cmpK c_isNotN (j_call d__law_again takes0 hr (by rfl) (ja_cons (j_int (l := .s)) (ja_cons (j_varS (i := 1) (by rfl) (by exact .inl rfl)) ja_nil))) (j_non (l := .s)) (nomark _))) (fun _ _ _ _ _ => j_varS (i := 1) (by rfl) (by exact .inl rfl))) (j_lst ja_nil) (nomark _)) (ss_cons (s_ret (j_bl (l := .s)))
      (ss_nil)) (ss_nil))
      (ss_cons (s_asg (i := 0) nd (by rfl) (by exact .inl rfl) (JE.strong (j_lst (ja_cons (j_non (l := .s)) (ja_cons (j_str (l := .s)) (ja_cons (j_tup (l := .s) (ja_cons (j_str (l := .s)) ja_nil)) (ja_cons (JE.strong (j_lst (ja_cons (j_str (l := .s)) ja_nil))) (ja_cons (JE.strong (j_lst (ja_cons (j_str (l := .s)) ja_nil))) (ja_cons (JE.strong (j_lst (ja_cons (j_str (l := .s)) ja_nil))) (ja_cons (JE.strong (j_lst (ja_cons (j_str (l := .s)) ja_nil))) (ja_cons (JE.strong (j_lst (ja_cons (j_str (l := .s)) ja_nil))) (ja_cons (JE.strong (j_lst (ja_cons (j_str (l := .s)) ja_nil))) ja_nil))))))))))) (by exact .inl rfl))
      (ss_cons (s_asg (i := 0) nd (by rfl) (by exact .inl rfl) (j_add (l := .s) (j_var (i := 0) (by rfl) (by exact .inl rfl)) (j_lst (ja_cons (JE.strong (j_lst (ja_cons (j_str (l := .s)) ja_nil))) (ja_cons (JE.strong (j_lst (ja_cons (j_str (l := .s)) (ja_cons (j_str (l := .s)) ja_nil)))) (ja_cons (JE.strong (j_lst (ja_cons (j_str (l := .s)) ja_nil))) (ja_cons (JE.strong (j_lst (ja_cons (j_str (l := .s)) ja_nil))) ja_nil)))))) (by exact .inl rfl))
      (ss_cons (s_asg (i := 0) nd (by rfl) (by exact .inl rfl) (j_add (l := .s) (j_var (i := 0) (by rfl) (by exact .inl rfl)) (j_lst (ja_cons (JE.strong (j_lst (ja_cons (j_int (l := .s)) ja_nil))) (ja_cons (JE.strong (j_lst (ja_cons (j_str (l := .s)) (ja_cons (j_non (l := .s)) ja_nil)))) (ja_cons (JE.strong (j_lst (ja_cons (j_str (l := .s)) ja_nil))) (ja_cons (JE.strong (j_lst (ja_cons (j_str (l := .s)) ja_nil))) (ja_cons (JE.strong (j_lst (ja_cons (j_str (l := .s)) ja_nil))) (ja_cons (JE.strong (j_lst (ja_cons (j_str (l := .s)) ja_nil))) ja_nil)))))))) (by exact .inl rfl))
      (ss_cons (s_if (t_not (t_cmpK (c_eq hu) (j_comp (own := [("one", 1)]) (t := (.nm 1)) (by rfl) nd (i_seq (j_var (i := 0) (by rfl) (by exact .inl rfl)) nofun) (by show BlkOk N__law_rejected (defScope (top 42)) _ _; exact ⟨rfl, by decide +kernel, by decide +kernel, by decide +kernel, by decide +kernel⟩) (by decide) (fun _ _ _ _ _ => (g_name (i := 1) nd (by rfl) (by exact .inl rfl) (by exact .inr rfl))) (fun _ _ _ _ _ => ts_one (t_cmpK c_isNotN (j_call d__law_again takes0 hr (by rfl) (ja_cons (j_int (l := .s)) (ja_cons (j_varS (i := 1) (by rfl) (by exact .inl rfl)) ja_nil))) (j_non (l := .s)) (nomark _))) (fun _ _ _ _ _ => j_varS (i := 1) (by rfl) (by exact .inl rfl))) (j_lst ja_nil) (nomark _))) (ss_cons (s_ret (j_bl (l := .s)))
      (ss_nil)) (ss_nil))
      (ss_cons (s_ret (j_and (j_cmpK (c_eq hu) (j_call d_read_chart takes_cx hr (by rfl) (ja_cons (JE.strong (j_lst ja_nil)) ja_nil)) (j_lst ja_nil) (nomark _)) (j_one (j_cmpK (c_eq hu) (j_call d_parse_bike takes_cx hr (by rfl) (ja_cons (j_str (l := .s)) ja_nil)) (j_tup (l := .s) (ja_cons (j_tup (l := .s) (ja_cons (j_int (l := .s)) (ja_cons (j_int (l := .s)) ja_nil))) (ja_cons (j_tup (l := .s) (ja_cons (j_int (l := .s)) ja_nil)) ja_nil))) (nomark _)))))
      (ss_nil))))))))))
theorem sc__law_refused : FnScope N__law_refused ["way", "one"] (defScope (top 43)) := ⟨rfl, rfl, rfl, by decide +kernel, rfl, by decide +kernel, by decide +kernel⟩
theorem js__law_refused {P : Program} {w : World} {K : PySem.W.Frag} {mg : Str → Option Value} {base : Heap} {f : Addr} {cdv : Value} {A : Around} {outer : List Env} {s : Shared} {H : Hp} {E : XK} {k : Nat} {g_chart : List MP.D → Option Res} {g_format_bike : List MP.D → Option Res} (G : Gm K mg) (d_chart : Df P w K mg base k "chart" g_chart) (d_format_bike : Df P w K mg base k "format_bike" g_format_bike) (hr : Room k (cx P w K mg base N__law_refused "_law_refused" (defScope (top 43)) f cdv A outer s H E).A) (F : List Addr) : JSs (cx P w K mg base N__law_refused "_law_refused" (defScope (top 43)) f cdv A outer s H E) (WD E) F (defBody (top 43)) (b__law_refused g_chart g_format_bike) := by
  have nd := sc__law_refused.nd
  have hu := room_u hr
  exact ss_cons (s_try (i := 2) (cl := clL) (by rfl) (by rfl) nd (by rfl) (by rfl) hr.hd G.xk (by rfl) takes_cx (fun W1 pn xe tk pw => ss_cons (s_expr (j_sel (jn_cons d_format_bike (by rfl) (jn_cons d_chart (by rfl) jn_nil)) tk hr (j_var (i := 0) (by rfl) (by exact .inl rfl)) (by intro _ _; rfl) (ja_cons (j_varS (i := 1) (by rfl) (by exact .inl rfl)) ja_nil) (by simp)))
      (ss_nil)) (fun a oe pn x S => ss_cons (s_ret (j_isx (l := .s) (i := 2) S G.xk G.x_InvalidBike G.m_isinstance (by rfl) (by exact .inl rfl) (by rfl) (by rfl)))
      (ss_nil)))
      (ss_cons (s_ret (j_bl (l := .s)))
      (ss_nil))
theorem sc_law : FnScope N_law ["script"] (defScope (top 44)) := ⟨rfl, rfl, rfl, by decide +kernel, rfl, by decide +kernel, by decide +kernel⟩
theorem js_law {P : Program} {w : World} {K : PySem.W.Frag} {mg : Str → Option Value} {base : Heap} {f : Addr} {cdv : Value} {A : Around} {outer : List Env} {s : Shared} {H : Hp} {E : XK} {k : Nat} {g__law_again : List MP.D → Option Res} {g__law_badbike : List MP.D → Option Res} {g__law_bike : List MP.D → Option Res} {g__law_drawn : List MP.D → Option Res} {g__law_least : List MP.D → Option Res} {g__law_refused : List MP.D → Option Res} {g__law_rejected : List MP.D → Option Res} {g__law_row : List MP.D → Option Res} {g__law_text : List MP.D → Option Res} {g_chart : List MP.D → Option Res} {g_format_bike : List MP.D → Option Res} {g_parse_bike : List MP.D → Option Res} {g_read_chart : List MP.D → Option Res} (G : Gm K mg) (d__law_again : Df P w K mg base k "_law_again" g__law_again) (d__law_badbike : Df P w K mg base k "_law_badbike" g__law_badbike) (d__law_bike : Df P w K mg base k "_law_bike" g__law_bike) (d__law_drawn : Df P w K mg base k "_law_drawn" g__law_drawn) (d__law_least : Df P w K mg base k "_law_least" g__law_least) (d__law_refused : Df P w K mg base k "_law_refused" g__law_refused) (d__law_rejected : Df P w K mg base k "_law_rejected" g__law_rejected) (d__law_row : Df P w K mg base k "_law_row" g__law_row) (d__law_text : Df P w K mg base k "_law_text" g__law_text) (d_chart : Df P w K mg base k "chart" g_chart) (d_format_bike : Df P w K mg base k "format_bike" g_format_bike) (d_parse_bike : Df P w K mg base k "parse_bike" g_parse_bike) (d_read_chart : Df P w K mg base k "read_chart" g_read_chart) (hr : Room k (cx0 P w K mg base N_law "law" (defScope (top 44)) f cdv A outer s H E).A) (F : List Addr) : JSs (cx0 P w K mg base N_law "law" (defScope (top 44)) f cdv A outer s H E) W0 F (defBody (top 44)) (b_law g__law_again g__law_badbike g__law_bike g__law_drawn g__law_least g__law_refused g__law_rejected g__law_row g__law_text g_chart g_format_bike g_parse_bike g_read_chart) := by
  have nd := sc_law.nd
  have hu := room_u hr
  exact ss_cons (s_asg (i := 1) nd (by rfl) (by exact .inl rfl) (j_call d__law_bike takes0 hr (by rfl) (ja_cons (j_varS (i := 0) (by rfl) (by exact .inl rfl)) (ja_cons (j_int (l := .s)) ja_nil))) (by exact .inl rfl))
      (ss_cons (s_asg (i := 2) nd (by rfl) (by exact .inl rfl) (j_call d__law_text takes0 hr (by rfl) (ja_cons (j_varS (i := 1) (by rfl) (by exact .inl rfl)) ja_nil)) (by exact .inl rfl))
      (ss_cons (s_if (t_bool (w_or (t_cmpK (c_ne hu) (j_call d_format_bike takes0 hr (by rfl) (ja_cons (j_varS (i := 1) (by rfl) (by exact .inl rfl)) ja_nil)) (j_var (i := 2) (by rfl) (by exact .inl rfl)) (nomark _)) (w_or (t_cmpK (c_ne hu) (j_call d_parse_bike takes0 hr (by rfl) (ja_cons (j_varS (i := 2) (by rfl) (by exact .inl rfl)) ja_nil)) (j_var (i := 1) (by rfl) (by exact .inl rfl)) (nomark _)) (w_or1 (t_not (t_val (j_call0 d__law_rejected takes0 hr (by rfl)))))))) (ss_cons (s_ret (j_bl (l := .s)))
      (ss_nil)) (ss_nil))
      (ss_cons (s_own (i := 3) nd (by rfl) (by exact .inl rfl) (j_lst ja_nil) (by exact .inl rfl))
      (ss_cons (s_for pass_cx0 (by rfl) (i_seq (j_idx (j_var (i := 1) (by rfl) (by exact .inl rfl)) (j_int (l := .s)) (by intro _ _; rfl)) nofun) (g_name (i := 4) nd (by rfl) (by exact .inr rfl) (by exact .inl rfl)) (ss_cons (s_app (i := 3) (by rfl) (by exact .inl rfl) (JE.strong (j_comp (own := [("ring", 13)]) (t := (.nm 13)) (by rfl) nd (i_seq (JE.weak (j_idx (j_var (i := 1) (by rfl) (by exact .inl rfl)) (j_int (l := .s)) (by intro _ _; rfl))) nofun) (by show BlkOk N_law (defScope (top 44)) _ _; exact ⟨rfl, by decide +kernel, by decide +kernel, by decide +kernel, by decide +kernel⟩) (by decide) (fun _ _ _ _ _ => (g_name (i := 13) nd (by rfl) (by exact .inl rfl) (by exact .inr rfl))) (fun _ _ _ _ _ => ts_nil) (fun _ _ _ _ _ => j_call d__law_least takes0 hr (by rfl) (ja_cons (j_varS (i := 13) (by rfl) (by exact .inl rfl)) (ja_cons (j_varS (i := 4) (by rfl) (by exact .inr (.inl rfl))) ja_nil))))))
      (ss_nil)))
      (ss_cons (s_if (t_bool (w_or (t_cmpK (c_ne hu) (j_call d_chart takes0 hr (by rfl) (ja_cons (j_varS (i := 1) (by rfl) (by exact .inl rfl)) ja_nil)) (j_comp (own := [("row", 14)]) (t := (.nm 14)) (by rfl) nd (i_seq (j_var (i := 3) (by rfl) (by exact .inl rfl)) nofun) (by show BlkOk N_law (defScope (top 44)) _ _; exact ⟨rfl, by decide +kernel, by decide +kernel, by decide +kernel, by decide +kernel⟩) (by decide) (fun _ _ _ _ _ => (g_name (i := 14) nd (by rfl) (by exact .inl rfl) (by exact .inr rfl))) (fun _ _ _ _ _ => ts_nil) (fun _ _ _ _ _ => j_call d__law_row takes0 hr (by rfl) (ja_cons (j_varS (i := 14) (by rfl) (by exact .inl rfl)) ja_nil))) (nomark _)) (w_or1 (t_cmpK (c_ne hu) (j_call d_read_chart takes0 hr (by rfl) (ja_cons (j_call d_chart takes0 hr (by rfl) (ja_cons (j_varS (i := 1) (by rfl) (by exact .inl rfl)) ja_nil)) ja_nil)) (j_var (i := 3) (by rfl) (by exact .inl rfl)) (nomark _))))) (ss_cons (s_ret (j_bl (l := .s)))
      (ss_nil)) (ss_nil))
      (ss_cons (s_for pass_cx0 (by rfl) (i_rng1 (l := .s) (by rfl) G.m_range (j_int (l := .s))) (g_name (i := 5) nd (by rfl) (by exact .inl rfl) (by exact .inl rfl)) (ss_cons (s_par2 (i := 6) (j := 7) (by rfl) nd (by rfl) (by rfl) (by decide) (by rfl) (by rfl) (m_dat (j_add (l := .s) (j_int (l := .s)) (j_mul (l := .s) (j_int (l := .s)) (j_var (i := 5) (by rfl) (by exact .inl rfl)))) (m_dat (j_mod (l := .s) (j_var (i := 5) (by rfl) (by exact .inl rfl)) (j_int (l := .s))) m_nil)) (by rfl))
      (ss_cons (s_asg (i := 8) nd (by rfl) (by exact .inl rfl) (j_idx (j_lst (ja_cons (j_varS (i := 2) (by rfl) (by exact .inl rfl)) (ja_cons (j_idx (j_call d_chart takes0 hr (by rfl) (ja_cons (j_varS (i := 1) (by rfl) (by exact .inl rfl)) ja_nil)) (j_call d__law_drawn takes0 hr (by rfl) (ja_cons (j_varS (i := 0) (by rfl) (by exact .inl rfl)) (ja_cons (j_add (l := .s) (j_var (i := 6) (by rfl) (by exact .inl rfl)) (j_int (l := .s))) (ja_cons (j_lenF G.m_len (by rfl) (ja_cons (j_var (i := 3) (by rfl) (by exact .inl rfl)) ja_nil)) ja_nil)))) (by intro _ _; rfl)) ja_nil))) (j_var (i := 7) (by rfl) (by exact .inl rfl)) (by intro _ _; rfl)) (by exact .inl rfl))
      (ss_cons (s_par2 (i := 9) (j := 10) (by rfl) nd (by rfl) (by rfl) (by decide) (by rfl) (by rfl) (m_dat (j_call d__law_drawn takes0 hr (by rfl) (ja_cons (j_varS (i := 0) (by rfl) (by exact .inl rfl)) (ja_cons (j_varS (i := 6) (by rfl) (by exact .inl rfl)) (ja_cons (j_add (l := .s) (j_lenF G.m_len (by rfl) (ja_cons (j_var (i := 8) (by rfl) (by exact .inl rfl)) ja_nil)) (j_int (l := .s))) ja_nil)))) (m_dat (j_idx (j_str (l := .s)) (j_call d__law_drawn takes0 hr (by rfl) (ja_cons (j_varS (i := 0) (by rfl) (by exact .inl rfl)) (ja_cons (j_add (l := .s) (j_var (i := 6) (by rfl) (by exact .inl rfl)) (j_int (l := .s))) (ja_cons (j_int (l := .s)) ja_nil)))) (by intro _ _; rfl)) m_nil)) (by rfl))
      (ss_cons (s_asg (i := 11) nd (by rfl) (by exact .inl rfl) (j_ite (t_cmpK (c_eq hu) (j_call d__law_drawn takes0 hr (by rfl) (ja_cons (j_varS (i := 0) (by rfl) (by exact .inl rfl)) (ja_cons (j_add (l := .s) (j_var (i := 6) (by rfl) (by exact .inl rfl)) (j_int (l := .s))) (ja_cons (j_int (l := .s)) ja_nil)))) (j_int (l := .s)) (nomark _)) (j_str (l := .s)) (j_varS (i := 10) (by rfl) (by exact .inl rfl))) (by exact .inl rfl))
      (ss_cons (s_asg (i := 12) nd (by rfl) (by exact .inl rfl) (j_add (l := .s) (j_add (l := .s) (j_slc (j_var (i := 8) (by rfl) (by exact .inl rfl)) p_none (p_some (j_var (i := 9) (by rfl) (by exact .inl rfl)))) (j_var (i := 11) (by rfl) (by exact .inl rfl))) (j_slc (j_var (i := 8) (by rfl) (by exact .inl rfl)) (p_some (j_add (l := .s) (j_var (i := 9) (by rfl) (by exact .inl rfl)) (j_call d__law_drawn takes0 hr (by rfl) (ja_cons (j_varS (i := 0) (by rfl) (by exact .inl rfl)) (ja_cons (j_add (l := .s) (j_var (i := 6) (by rfl) (by exact .inl rfl)) (j_int (l := .s))) (ja_cons (j_int (l := .s)) ja_nil)))))) p_none)) (by exact .inl rfl))
      (ss_cons (s_if (t_cmpK (c_notinT hu) (j_call d__law_again takes0 hr (by rfl) (ja_cons (j_varS (i := 7) (by rfl) (by exact .inl rfl)) (ja_cons (j_ite (t_cmpK (c_eq hu) (j_var (i := 7) (by rfl) (by exact .inl rfl)) (j_int (l := .s)) (nomark _)) (j_varS (i := 12) (by rfl) (by exact .inl rfl)) (JE.strong (j_lst (ja_cons (j_varS (i := 12) (by rfl) (by exact .inl rfl)) ja_nil)))) ja_nil))) (j_tup (l := .s) (ja_cons (j_non (l := .s)) (ja_cons (j_ite (t_cmpK (c_eq hu) (j_var (i := 7) (by rfl) (by exact .inl rfl)) (j_int (l := .s)) (nomark _)) (j_varS (i := 12) (by rfl) (by exact .inl rfl)) (JE.strong (j_lst (ja_cons (j_varS (i := 12) (by rfl) (by exact .inl rfl)) ja_nil)))) ja_nil))) (by with_unfolding_all rfl)) (ss_cons (s_ret (j_bl (l := .s)))
      (ss_nil)) (ss_nil))
      (ss_nil))))))))
      (ss_cons (s_ret (j_and (j_call d__law_refused takes0 hr (by rfl) (ja_cons (j_int (l := .s)) (ja_cons (j_call d__law_badbike takes0 hr (by rfl) (ja_cons (j_varS (i := 0) (by rfl) (by exact .inl rfl)) (ja_cons (j_int (l := .s)) ja_nil))) ja_nil))) (j_one (j_call d__law_refused takes0 hr (by rfl) (ja_cons (j_int (l := .s)) (ja_cons (j_call d__law_badbike takes0 hr (by rfl) (ja_cons (j_varS (i := 0) (by rfl) (by exact .inl rfl)) (ja_cons (j_int (l := .s)) ja_nil))) ja_nil))))))
      (ss_nil))))))))
end MP

set_option Elab.async false
set_option linter.all false
set_option maxRecDepth 100000
namespace MP
open PySem PySem.Spec PyProof.Rows L2
/-! ### readings, run step by step: each stage waits for the part ahead of it -/
def seqK (g : S) : Option Out → Option Out
  | some (.nx m') => g m'
  | o => o
def ifK (f g : S) (m : En) : Option Res → Option Out
  | some (.ok (.bool true)) => f m
  | some (.ok (.bool false)) => g m
  | some (.ok _) => none
  | some (.exc c) => some (.exc c m)
  | none => none
def asgK (i : Nat) (m : En) : Option Res → Option Out
  | some (.ok d) => some (.nx (m.set i (.dat d)))
  | some (.exc c) => some (.exc c m)
  | none => none
def ownK (i : Nat) (m : En) : Option Res → Option Out
  | some (.ok d) => some (.nx (m.set i (ownSl d)))
  | some (.exc c) => some (.exc c m)
  | none => none
def exprK (m : En) : Option Res → Option Out
  | some (.ok _) => some (.nx m)
  | some (.exc c) => some (.exc c m)
  | none => none
def retK (m : En) : Option Res → Option Out
  | some (.ok d) => some (.rt d)
  | some (.exc c) => some (.exc c m)
  | none => none
def retvK : Option Sl → Option Out
  | some (.dat d) => some (.rt d)
  | some (.own ds) => some (.rt (.list ds))
  | _ => none
def frzK (j : Nat) (m : En) : Option Sl → En
  | some (.own ds) => m.set j (.dat (.list ds))
  | _ => m
def appK (i : Nat) (fa : E) (m : En) : Option Sl → Option Out
  | some (.own ds) => bndS (fa m) m fun d => if ds.length < line then some (.nx (m.set i (.own (ds ++ [d])))) else none
  | _ => none
def appJ (i : Nat) (ds : List MP.D) (m : En) : Option Res → Option Out
  | some (.ok d) => if ds.length < line then some (.nx (m.set i (.own (ds ++ [d])))) else none
  | some (.exc c) => some (.exc c m)
  | none => none
def varK : Option Sl → Option Res
  | some (.dat d) => some (.ok d)
  | some (.own ds) => some (.ok (.list ds))
  | _ => none
def varSK : Option Sl → Option Res
  | some (.dat d) => some (.ok d)
  | _ => none
def op1K (o : MP.D → Option MP.D) : Option Res → Option Res
  | some (.ok x) => ret (o x)
  | some (.exc c) => some (.exc c)
  | none => none
def op2B (o : MP.D → MP.D → Option MP.D) (x : MP.D) : Option Res → Option Res
  | some (.ok y) => ret (o x y)
  | some (.exc c) => some (.exc c)
  | none => none
def op2A (o : MP.D → MP.D → Option MP.D) (fb : E) (m : En) : Option Res → Option Res
  | some (.ok x) => op2B o x (fb m)
  | some (.exc c) => some (.exc c)
  | none => none
def elB (d : MP.D) : Option ResL → Option ResL
  | some (.ok ds) => some (.ok (d :: ds))
  | some (.exc c) => some (.exc c)
  | none => none
def elA (r : EL) (m : En) : Option Res → Option ResL
  | some (.ok d) => elB d (r m)
  | some (.exc c) => some (.exc c)
  | none => none
def notK : Option Res → Option Res
  | some (.ok (.bool b)) => some (.ok (.bool (!b)))
  | some (.exc c) => some (.exc c)
  | _ => none
def andK (fb : E) (m : En) : Option Res → Option Res
  | some (.ok (.bool true)) => fb m
  | some (.ok (.bool false)) => some (.ok (.bool false))
  | some (.exc c) => some (.exc c)
  | _ => none
def orK (fb : E) (m : En) : Option Res → Option Res
  | some (.ok (.bool false)) => fb m
  | some (.ok (.bool true)) => some (.ok (.bool true))
  | some (.exc c) => some (.exc c)
  | _ => none
def iteK (fa fb : E) (m : En) : Option Res → Option Res
  | some (.ok (.bool true)) => fa m
  | some (.ok (.bool false)) => fb m
  | some (.exc c) => some (.exc c)
  | _ => none
def chD (g2 : MP.D → MP.D → Option MP.D) (y : MP.D) : Option Res → Option Res
  | some (.ok u) => ret (g2 y u)
  | some (.exc c) => some (.exc c)
  | none => none
def chC (g2 : MP.D → MP.D → Option MP.D) (y : MP.D) (fc : E) (m : En) : Option Res → Option Res
  | some (.ok (.bool true)) => chD g2 y (fc m)
  | some (.ok (.bool false)) => some (.ok (.bool false))
  | some (.exc c) => some (.exc c)
  | _ => none
def chB (g1 g2 : MP.D → MP.D → Option MP.D) (x : MP.D) (fc : E) (m : En) : Option Res → Option Res
  | some (.ok y) => chC g2 y fc m (ret (g1 x y))
  | some (.exc c) => some (.exc c)
  | none => none
def chA (g1 g2 : MP.D → MP.D → Option MP.D) (fb fc : E) (m : En) : Option Res → Option Res
  | some (.ok x) => chB g1 g2 x fc m (fb m)
  | some (.exc c) => some (.exc c)
  | none => none
def forK (t : Tg) (f : S) (m : En) : Option ResL → Option Out
  | some (.ok ds) => forGo t f ds m
  | some (.exc c) => some (.exc c m)
  | none => none
def unpJ : Option En → Option Out
  | some m' => some (.nx m')
  | none => none
def unpK (t : Tg) (m : En) : Option Res → Option Out
  | some (.ok d) => unpJ (bindT t d m)
  | some (.exc c) => some (.exc c m)
  | none => none
def parK (is : List Nat) (m : En) : Option ResM → Option Out
  | some (.ok ss) => if ss.length = is.length then some (.nx (setSl m is ss)) else none
  | some (.exc c) => some (.exc c m)
  | none => none
def mC (x : Sl) : Option ResM → Option ResM
  | some (.ok ss) => some (.ok (x :: ss))
  | some (.exc c) => some (.exc c)
  | none => none
def mB (r : EM) (m : En) : Option Sl → Option ResM
  | some x => mC x (r m)
  | none => none
def mA (k : MP.D → Option Sl) (r : EM) (m : En) : Option Res → Option ResM
  | some (.ok d) => mB r m (k d)
  | some (.exc c) => some (.exc c)
  | none => none
def lstK : Option (List MP.D) → Option Res
  | some ys => some (.ok (.list ys))
  | none => none
def compK (vs : List Nat) (t : Tg) (fc fl : E) (m : En) : Option ResL → Option Res
  | some (.ok ds) => if ds.length ≤ line then lstK (compGo t fc fl (wipeM m vs) ds) else none
  | some (.exc c) => some (.exc c)
  | none => none
def comp2K (vs vs1 : List Nat) (t t1 : Tg) (fi1 : EL) (fl : E) (m : En) : Option ResL → Option Res
  | some (.ok ds) => if ds.length ≤ 1000 then lstK (comp2Go vs1 t t1 fi1 fl (wipeM m vs) ds) else none
  | some (.exc c) => some (.exc c)
  | none => none
def iSeqK : Option Res → Option ResL
  | some (.ok (.list ds)) => some (.ok ds)
  | some (.ok (.tuple ds)) => some (.ok ds)
  | some (.ok (.str z)) => some (.ok (signs z))
  | some (.exc c) => some (.exc c)
  | _ => none
def rng1K : Option Res → Option ResL
  | some (.ok (.int j)) => if -1000000 ≤ j ∧ j ≤ 1000000 then some (.ok (irange 0 j.toNat)) else none
  | some (.exc c) => some (.exc c)
  | _ => none
def twoB (k : MP.D → MP.D → Option ResL) (x : MP.D) : Option Res → Option ResL
  | some (.ok y) => k x y
  | some (.exc c) => some (.exc c)
  | none => none
def twoA (fb : E) (k : MP.D → MP.D → Option ResL) (m : En) : Option Res → Option ResL
  | some (.ok x) => twoB k x (fb m)
  | some (.exc c) => some (.exc c)
  | none => none
def tryJ (i : Nat) : Option Out → Option Out
  | some (.nx m2) => some (.nx ((m2.set i .un).map clr))
  | some (.bk m2) => some (.bk ((m2.set i .un).map clr))
  | some (.ct m2) => some (.ct ((m2.set i .un).map clr))
  | some (.rt d) => some (.rt d)
  | _ => none
def tryK (cl : List Str) (i : Nat) (fs : Str → S) : Option Out → Option Out
  | some (.exc x m1) => if x ∈ cl then tryJ i (fs x (m1.set i (.exc x))) else none
  | o => o
def isxK (cl : List Str) (x y : Str) : Option Sl → Option Res
  | some (.exc _) => if y ∈ cl then some (.ok (.bool (decide (x = y)))) else none
  | _ => none
def mtB (g : MP.D → MP.D → Option MP.D) (x : MP.D) : Option Res → Option Res
  | some (.ok y) => ret (g x y)
  | some (.exc c) => some (.exc c)
  | none => none
def mtA (T : String) (g : MP.D → MP.D → Option MP.D) (fb : E) (m : En) : Option Res → Option Res
  | some (.ok x) => if tyOk T x then mtB g x (fb m) else none
  | some (.exc c) => some (.exc c)
  | none => none
def slC (d : MP.D) (x : Option Int) : Option (Except Str (Option Int)) → Option Res
  | some (.ok y) => ret (gCut d x y)
  | some (.error c) => some (.exc c)
  | none => none
def slB (d : MP.D) (hi : EP') (m : En) : Option (Except Str (Option Int)) → Option Res
  | some (.ok x) => slC d x (hi m)
  | some (.error c) => some (.exc c)
  | none => none
def slA (lo hi : EP') (m : En) : Option Res → Option Res
  | some (.ok d) => slB d hi m (lo m)
  | some (.exc c) => some (.exc c)
  | none => none
def pK : Option Res → Option (Except Str (Option Int))
  | some (.ok (.int i)) => some (.ok (some i))
  | some (.exc c) => some (.error c)
  | _ => none
section
variable {f g : S} {m : En} {fa fb fc : E} {i : Nat} {d x y z : MP.D} {ds : List MP.D} {c : Str}
theorem optR (p : Option Res → Prop) (h0 : p none) (h1 : ∀ c, p (some (.exc c))) (h2 : ∀ d, p (some (.ok d))) : ∀ o, p o
  | none => h0
  | some (.exc c) => h1 c
  | some (.ok d) => h2 d
@[simp] theorem x_seq : sSeq f g m = seqK g (f m) := by
  unfold sSeq seqK
  cases f m with | none => rfl | some z => cases z <;> rfl
@[simp] theorem x_if : sIf fc f g m = ifK f g m (fc m) := by
  unfold sIf ifK bndS
  cases fc m with | none => rfl | some z => cases z with | exc c => rfl | ok d => cases d with | bool b => cases b <;> rfl | _ => rfl
@[simp] theorem x_asg : sAsg i fa m = asgK i m (fa m) := by
  unfold sAsg asgK bndS
  cases fa m with | none => rfl | some z => cases z <;> rfl
@[simp] theorem x_own : sOwn i fa m = ownK i m (fa m) := by
  unfold sOwn ownK bndS
  cases fa m with | none => rfl | some z => cases z <;> rfl
@[simp] theorem x_expr : sExpr fa m = exprK m (fa m) := by
  unfold sExpr exprK bndS
  cases fa m with | none => rfl | some z => cases z <;> rfl
@[simp] theorem x_retS : sRet fa m = retK m (fa m) := by
  unfold sRet retK bndS
  cases fa m with | none => rfl | some z => cases z <;> rfl
@[simp] theorem x_retV : sRetV i m = retvK m[i]? := by
  unfold sRetV retvK
  cases m[i]? with | none => rfl | some z => cases z <;> rfl
@[simp] theorem x_frzd : frz i m = frzK i m m[i]? := by
  unfold frz frzK
  cases m[i]? with | none => rfl | some z => cases z <;> rfl
@[simp] theorem x_app : sApp i fa m = appK i fa m m[i]? := by
  unfold sApp appK
  cases m[i]? with | none => rfl | some z => cases z <;> rfl
@[simp] theorem x_appO : appK i fa m (some (.own ds)) = appJ i ds m (fa m) := by
  unfold appK appJ bndS
  cases fa m with | none => rfl | some z => cases z <;> rfl
@[simp] theorem x_var : eVar i m = varK m[i]? := by
  unfold eVar varK
  cases m[i]? with | none => rfl | some z => cases z <;> rfl
@[simp] theorem x_varS : eVarS i m = varSK m[i]? := by
  unfold eVarS varSK
  cases m[i]? with | none => rfl | some z => cases z <;> rfl
@[simp] theorem x_op1 {o : MP.D → Option MP.D} : eOp1 o fa m = op1K o (fa m) := by
  unfold eOp1 op1K bnd
  cases fa m with | none => rfl | some z => cases z <;> rfl
@[simp] theorem x_op2 {o : MP.D → MP.D → Option MP.D} : eOp2 o fa fb m = op2A o fb m (fa m) := by
  unfold eOp2 op2A bnd
  cases fa m with | none => rfl | some z => cases z with | exc c => rfl | ok d => unfold op2B; simp only [bnd]; all_goals (cases fb m with | none => rfl | some z => cases z <;> rfl)
@[simp] theorem x_elCons {r : EL} : elCons fa r m = elA r m (fa m) := by
  unfold elCons elA
  cases fa m with | none => rfl | some z => cases z with | exc c => rfl | ok d => unfold elB; all_goals (cases r m with | none => rfl | some z => cases z <;> rfl)
@[simp] theorem x_not : eNot fa m = notK (fa m) := by
  unfold eNot notK bnd
  cases fa m with | none => rfl | some z => cases z with | exc c => rfl | ok d => cases d <;> rfl
@[simp] theorem x_and : eAnd fa fb m = andK fb m (fa m) := by
  unfold eAnd andK bnd
  cases fa m with | none => rfl | some z => cases z with | exc c => rfl | ok d => cases d with | bool b => cases b <;> rfl | _ => rfl
@[simp] theorem x_or : eOr fa fb m = orK fb m (fa m) := by
  unfold eOr orK bnd
  cases fa m with | none => rfl | some z => cases z with | exc c => rfl | ok d => cases d with | bool b => cases b <;> rfl | _ => rfl
@[simp] theorem x_ite : eIte fc fa fb m = iteK fa fb m (fc m) := by
  unfold eIte iteK bnd
  cases fc m with | none => rfl | some z => cases z with | exc c => rfl | ok d => cases d with | bool b => cases b <;> rfl | _ => rfl
@[simp] theorem x_chain {g1 g2 : MP.D → MP.D → Option MP.D} : eChain g1 g2 fa fb fc m = chA g1 g2 fb fc m (fa m) := by
  unfold eChain chA
  cases fa m with
  | none => rfl
  | some z => cases z with
    | exc c => rfl
    | ok d =>
      unfold chB
      simp only [bnd]
      cases fb m with
      | none => rfl
      | some z => cases z with
        | exc c => rfl
        | ok e =>
          unfold chC
          dsimp only
          cases ret (g1 d e) with
          | none => rfl
          | some z => cases z with
            | exc c => rfl
            | ok u => cases u with
              | bool b =>
                cases b
                · rfl
                · unfold chD
                  dsimp only
                  all_goals (cases fc m with
                    | none => rfl
                    | some z => cases z <;> rfl)
              | _ => rfl
@[simp] theorem x_for {fi : EL} {t : Tg} : sFor fi t f m = forK t f m (fi m) := by
  unfold sFor forK
  cases fi m with | none => rfl | some z => cases z <;> rfl
@[simp] theorem x_unp {t : Tg} : sUnp t fa m = unpK t m (fa m) := by
  unfold sUnp unpK
  cases fa m with | none => rfl | some z => cases z with | exc c => rfl | ok d => unfold unpJ; simp only [bndS]; all_goals (cases bindT t d m <;> rfl)
@[simp] theorem x_par {is : List Nat} {fm : EM} : sPar is fm m = parK is m (fm m) := by
  unfold sPar parK
  cases fm m with | none => rfl | some z => cases z <;> rfl
@[simp] theorem x_mCons {k : MP.D → Option Sl} {r : EM} : mCons k fa r m = mA k r m (fa m) := by
  unfold mCons mA
  cases fa m with | none => rfl | some z => cases z with | exc c => rfl | ok d => unfold mB; dsimp only; all_goals (cases k d with | none => rfl | some x => unfold mC; dsimp only; all_goals (cases r m with | none => rfl | some z => cases z <;> rfl))
@[simp] theorem x_comp {vs : List Nat} {t : Tg} {fi : EL} {fl : E} : eComp vs t fi fc fl m = compK vs t fc fl m (fi m) := by
  unfold eComp compK
  cases fi m with | none => rfl | some z => cases z with | exc c => rfl | ok ds => unfold lstK; dsimp only; all_goals (split <;> rfl)
@[simp] theorem x_comp2 {vs vs1 : List Nat} {t t1 : Tg} {fi fi1 : EL} {fl : E} : eComp2 vs vs1 t t1 fi fi1 fl m = comp2K vs vs1 t t1 fi1 fl m (fi m) := by
  unfold eComp2 comp2K
  cases fi m with | none => rfl | some z => cases z with | exc c => rfl | ok ds => unfold lstK; dsimp only; all_goals (split <;> rfl)
@[simp] theorem x_iSeq : iSeq fa m = iSeqK (fa m) := by
  unfold iSeq iSeqK
  cases fa m with | none => rfl | some z => cases z with | exc c => rfl | ok d => cases d <;> rfl
@[simp] theorem x_rng1 : iRng1 fa m = rng1K (fa m) := by
  unfold iRng1 rng1K
  cases fa m with | none => rfl | some z => cases z with | exc c => rfl | ok d => cases d <;> rfl
@[simp] theorem x_two {k : MP.D → MP.D → Option ResL} : two fa fb k m = twoA fb k m (fa m) := by
  unfold two twoA
  cases fa m with | none => rfl | some z => cases z with | exc c => rfl | ok d => unfold twoB; dsimp only; all_goals (cases fb m with | none => rfl | some z => cases z <;> rfl)
@[simp] theorem x_try {cl : List Str} {fs : Str → S} : sTry cl i f fs m = tryK cl i fs (f m) := by
  unfold sTry tryK
  cases f m with | none => rfl | some z => cases z with | exc c m1 => unfold tryJ; rfl | _ => rfl
@[simp] theorem x_isx {cl : List Str} {a b : Str} : eIsx cl i a b m = isxK cl a b m[i]? := by
  unfold eIsx isxK
  cases m[i]? with | none => rfl | some z => cases z <;> rfl
@[simp] theorem x_mt {T : String} {o : MP.D → MP.D → Option MP.D} : eMt T o fa fb m = mtA T o fb m (fa m) := by
  unfold eMt mtA bnd
  cases fa m with | none => rfl | some z => cases z with | exc c => rfl | ok d => unfold mtB; simp only [bnd]; all_goals (cases fb m with | none => rfl | some z => cases z <;> rfl)
@[simp] theorem x_slc {lo hi : EP'} : eSlc fa lo hi m = slA lo hi m (fa m) := by
  unfold eSlc slA
  cases fa m with
  | none => rfl
  | some z => cases z with
    | exc c => rfl
    | ok d =>
      unfold slB
      simp only [bnd]
      cases lo m with
      | none => rfl
      | some z => cases z with
        | error c => rfl
        | ok e =>
          unfold slC
          dsimp only
          all_goals (cases hi m with
            | none => rfl
            | some z => cases z <;> rfl)
@[simp] theorem x_pSome : pSome fa m = pK (fa m) := by
  unfold pSome pK
  cases fa m with
  | none => rfl
  | some z => cases z with
    | exc c => rfl
    | ok d => cases d <;> rfl
@[simp] theorem x_skip : sSkip m = some (.nx m) := rfl
@[simp] theorem x_brk : sBrk m = some (.bk m) := rfl
@[simp] theorem x_cnt : sCnt m = some (.ct m) := rfl
@[simp] theorem x_retN : sRetN m = some (.rt .none) := rfl
@[simp] theorem x_C : eC d m = some (.ok d) := rfl
@[simp] theorem x_elNil : elNil m = some (.ok []) := rfl
@[simp] theorem x_mNil : mNil m = some (.ok []) := rfl
@[simp] theorem x_pNone : pNone m = some (.ok none) := rfl
@[simp] theorem x_raise {c : Str} : sRaise c m = some (.exc c m) := rfl
@[simp] theorem x_frz {j : Nat} : sFrz j f m = f (frz j m) := rfl
@[simp] theorem x_fn {h : List MP.D → Option Res} {r : EL} : eFn h r m = bndL (r m) h := rfl
@[simp] theorem x_while {n : Nat} : sWhile n fc f m = whileGo fc f n m := rfl
end
end MP

set_option Elab.async false
set_option linter.all false
set_option maxRecDepth 100000
namespace MP
open PySem PySem.Spec PyProof.Rows L2
section
variable {f g : S} {m m' : En} {fa fb fc fl : E} {i j : Nat} {d e x y z : MP.D} {ds es xs ys : List MP.D} {c : Str} {r : EL} {b : Bool} {t t1 : Tg} {fi1 : EL} {vs vs1 is : List Nat} {ss : List Sl} {n k : Int} {p q : Bool}
@[simp] theorem k_seq1 : seqK g (some (.nx m)) = g m := rfl
@[simp] theorem k_seq2 : seqK g (some (.rt d)) = some (.rt d) := rfl
@[simp] theorem k_seq3 : seqK g (some (.exc c m)) = some (.exc c m) := rfl
@[simp] theorem k_seq4 : seqK g (some (.bk m)) = some (.bk m) := rfl
@[simp] theorem k_seq5 : seqK g (some (.ct m)) = some (.ct m) := rfl
@[simp] theorem k_if1 : ifK f g m (some (.ok (.bool true))) = f m := rfl
@[simp] theorem k_if2 : ifK f g m (some (.ok (.bool false))) = g m := rfl
@[simp] theorem k_if3 : ifK f g m (some (.exc c)) = some (.exc c m) := rfl
theorem k_ifb : ifK f g m (some (.ok (.bool b))) = if b then f m else g m := by cases b <;> rfl
@[simp] theorem k_asg1 : asgK i m (some (.ok d)) = some (.nx (m.set i (.dat d))) := rfl
@[simp] theorem k_asg2 : asgK i m (some (.exc c)) = some (.exc c m) := rfl
@[simp] theorem k_own1 : ownK i m (some (.ok d)) = some (.nx (m.set i (ownSl d))) := rfl
@[simp] theorem k_own2 : ownK i m (some (.exc c)) = some (.exc c m) := rfl
@[simp] theorem k_ownL : ownSl (.list ds) = .own ds := rfl
@[simp] theorem k_expr1 : exprK m (some (.ok d)) = some (.nx m) := rfl
@[simp] theorem k_expr2 : exprK m (some (.exc c)) = some (.exc c m) := rfl
@[simp] theorem k_ret1 : retK m (some (.ok d)) = some (.rt d) := rfl
@[simp] theorem k_ret2 : retK m (some (.exc c)) = some (.exc c m) := rfl
@[simp] theorem k_retv1 : retvK (some (.dat d)) = some (.rt d) := rfl
@[simp] theorem k_retv2 : retvK (some (.own ds)) = some (.rt (.list ds)) := rfl
@[simp] theorem k_frz1 : frzK i m (some (.dat d)) = m := rfl
@[simp] theorem k_frz2 : frzK i m (some (.own ds)) = m.set i (.dat (.list ds)) := rfl
@[simp] theorem k_frz3 : frzK i m (some .un) = m := rfl
@[simp] theorem k_app1 : appJ i ds m (some (.ok d)) = if ds.length < line then some (.nx (m.set i (.own (ds ++ [d])))) else none := rfl
@[simp] theorem k_app2 : appJ i ds m (some (.exc c)) = some (.exc c m) := rfl
@[simp] theorem k_var1 : varK (some (.dat d)) = some (.ok d) := rfl
@[simp] theorem k_var2 : varK (some (.own ds)) = some (.ok (.list ds)) := rfl
@[simp] theorem k_varS1 : varSK (some (.dat d)) = some (.ok d) := rfl
@[simp] theorem k_op1 {o : MP.D → Option MP.D} : op1K o (some (.ok x)) = ret (o x) := rfl
@[simp] theorem k_op1e {o : MP.D → Option MP.D} : op1K o (some (.exc c)) = some (.exc c) := rfl
@[simp] theorem k_op2a {o : MP.D → MP.D → Option MP.D} : op2A o fb m (some (.ok x)) = op2B o x (fb m) := rfl
@[simp] theorem k_op2e {o : MP.D → MP.D → Option MP.D} : op2A o fb m (some (.exc c)) = some (.exc c) := rfl
@[simp] theorem k_op2b {o : MP.D → MP.D → Option MP.D} : op2B o x (some (.ok y)) = ret (o x y) := rfl
@[simp] theorem k_op2f {o : MP.D → MP.D → Option MP.D} : op2B o x (some (.exc c)) = some (.exc c) := rfl
@[simp] theorem k_elA : elA r m (some (.ok d)) = elB d (r m) := rfl
@[simp] theorem k_elAe : elA r m (some (.exc c)) = some (.exc c) := rfl
@[simp] theorem k_elB : elB d (some (.ok ds)) = some (.ok (d :: ds)) := rfl
@[simp] theorem k_elBe : elB d (some (.exc c)) = some (.exc c) := rfl
@[simp] theorem k_bndL {h : List MP.D → Option Res} : bndL (some (.ok ds)) h = h ds := rfl
@[simp] theorem k_bndLe {h : List MP.D → Option Res} : bndL (some (.exc c)) h = some (.exc c) := rfl
@[simp] theorem k_ret : ret (some d) = some (.ok d) := rfl
@[simp] theorem k_not : notK (some (.ok (.bool b))) = some (.ok (.bool (!b))) := rfl
@[simp] theorem k_note : notK (some (.exc c)) = some (.exc c) := rfl
@[simp] theorem k_and1 : andK fb m (some (.ok (.bool true))) = fb m := rfl
@[simp] theorem k_and2 : andK fb m (some (.ok (.bool false))) = some (.ok (.bool false)) := rfl
@[simp] theorem k_and3 : andK fb m (some (.exc c)) = some (.exc c) := rfl
theorem k_andb : andK fb m (some (.ok (.bool b))) = if b then fb m else some (.ok (.bool false)) := by cases b <;> rfl
@[simp] theorem k_or1 : orK fb m (some (.ok (.bool false))) = fb m := rfl
@[simp] theorem k_or2 : orK fb m (some (.ok (.bool true))) = some (.ok (.bool true)) := rfl
@[simp] theorem k_or3 : orK fb m (some (.exc c)) = some (.exc c) := rfl
theorem k_orb : orK fb m (some (.ok (.bool b))) = if b then some (.ok (.bool true)) else fb m := by cases b <;> rfl
@[simp] theorem k_ite1 : iteK fa fb m (some (.ok (.bool true))) = fa m := rfl
@[simp] theorem k_ite2 : iteK fa fb m (some (.ok (.bool false))) = fb m := rfl
theorem k_iteb : iteK fa fb m (some (.ok (.bool b))) = if b then fa m else fb m := by cases b <;> rfl
section
variable {g1 g2 : MP.D → MP.D → Option MP.D}
@[simp] theorem k_chA : chA g1 g2 fb fc m (some (.ok x)) = chB g1 g2 x fc m (fb m) := rfl
@[simp] theorem k_chAe : chA g1 g2 fb fc m (some (.exc c)) = some (.exc c) := rfl
@[simp] theorem k_chB : chB g1 g2 x fc m (some (.ok y)) = chC g2 y fc m (ret (g1 x y)) := rfl
@[simp] theorem k_chBe : chB g1 g2 x fc m (some (.exc c)) = some (.exc c) := rfl
@[simp] theorem k_chC1 : chC g2 y fc m (some (.ok (.bool true))) = chD g2 y (fc m) := rfl
@[simp] theorem k_chC2 : chC g2 y fc m (some (.ok (.bool false))) = some (.ok (.bool false)) := rfl
theorem k_chCb : chC g2 y fc m (some (.ok (.bool b))) = if b then chD g2 y (fc m) else some (.ok (.bool false)) := by cases b <;> rfl
@[simp] theorem k_chD : chD g2 y (some (.ok z)) = ret (g2 y z) := rfl
@[simp] theorem k_chDe : chD g2 y (some (.exc c)) = some (.exc c) := rfl
end
@[simp] theorem k_for1 : forK t f m (some (.ok ds)) = forGo t f ds m := rfl
@[simp] theorem k_for2 : forK t f m (some (.exc c)) = some (.exc c m) := rfl
@[simp] theorem k_unpK : unpK t m (some (.ok d)) = unpJ (bindT t d m) := rfl
@[simp] theorem k_unpKe : unpK t m (some (.exc c)) = some (.exc c m) := rfl
@[simp] theorem k_unpJ : unpJ (some m) = some (.nx m) := rfl
@[simp] theorem k_par : parK is m (some (.ok ss)) = if ss.length = is.length then some (.nx (setSl m is ss)) else none := rfl
@[simp] theorem k_pare : parK is m (some (.exc c)) = some (.exc c m) := rfl
@[simp] theorem k_mA {h : MP.D → Option Sl} {fm : EM} : mA h fm m (some (.ok d)) = mB fm m (h d) := rfl
@[simp] theorem k_mAe {h : MP.D → Option Sl} {fm : EM} : mA h fm m (some (.exc c)) = some (.exc c) := rfl
@[simp] theorem k_mB {s : Sl} {fm : EM} : mB fm m (some s) = mC s (fm m) := rfl
@[simp] theorem k_mC {s : Sl} : mC s (some (.ok ss)) = some (.ok (s :: ss)) := rfl
@[simp] theorem k_mCe {s : Sl} : mC s (some (.exc c)) = some (.exc c) := rfl
@[simp] theorem k_dat : kDat d = some (.dat d) := rfl
@[simp] theorem k_kown : kOwn (.list ds) = some (.own ds) := rfl
@[simp] theorem k_setSl1 {s : Sl} : setSl m (j :: is) (s :: ss) = setSl (m.set j s) is ss := rfl
@[simp] theorem k_setSl0 : setSl m [] ss = m := by cases ss <;> rfl
@[simp] theorem k_setAll1 : setAll m (j :: is) (d :: ds) = setAll (m.set j (.dat d)) is ds := rfl
@[simp] theorem k_setAll0 : setAll m [] ds = m := by cases ds <;> rfl
@[simp] theorem k_bindN : bindT (.nm i) d m = some (m.set i (.dat d)) := rfl
@[simp] theorem k_bindT : bindT (.tp is) (.tuple ds) m = if ds.length = is.length then some (setAll m is ds) else none := rfl
@[simp] theorem k_wipe0 : wipeM m [] = m := rfl
@[simp] theorem k_wipe1 {v : Nat} : wipeM m (v :: vs) = (wipeM m vs).set v .un := rfl
@[simp] theorem k_lst : lstK (some ys) = some (.ok (.list ys)) := rfl
@[simp] theorem k_comp : compK vs t fc fl m (some (.ok ds)) = if ds.length ≤ line then lstK (compGo t fc fl (wipeM m vs) ds) else none := rfl
@[simp] theorem k_compe : compK vs t fc fl m (some (.exc c)) = some (.exc c) := rfl
@[simp] theorem k_comp2 : comp2K vs vs1 t t1 fi1 fl m (some (.ok ds)) = if ds.length ≤ 1000 then lstK (comp2Go vs1 t t1 fi1 fl (wipeM m vs) ds) else none := rfl
@[simp] theorem k_iSeq1 : iSeqK (some (.ok (.list ds))) = some (.ok ds) := rfl
@[simp] theorem k_iSeq2 : iSeqK (some (.ok (.tuple ds))) = some (.ok ds) := rfl
@[simp] theorem k_iSeq3 : iSeqK (some (.exc c)) = some (.exc c) := rfl
@[simp] theorem k_rng1 : rng1K (some (.ok (.int n))) = if -1000000 ≤ n ∧ n ≤ 1000000 then some (.ok (irange 0 n.toNat)) else none := rfl
@[simp] theorem k_twoA {h : MP.D → MP.D → Option ResL} : twoA fb h m (some (.ok x)) = twoB h x (fb m) := rfl
@[simp] theorem k_twoB {h : MP.D → MP.D → Option ResL} : twoB h x (some (.ok y)) = h x y := rfl
@[simp] theorem k_zipT : kZip (.tuple xs) (.tuple ys) = some (.ok (pairs xs ys)) := rfl
@[simp] theorem k_zipL : kZip (.list xs) (.list ys) = some (.ok (pairs xs ys)) := rfl
@[simp] theorem k_rng2 : kRng (.int n) (.int k) = if (-1000000 ≤ n ∧ n ≤ 1000000) ∧ -1000000 ≤ k ∧ k ≤ 1000000 then some (.ok (irange n (k - n).toNat)) else none := rfl
@[simp] theorem k_tryJ1 : tryJ i (some (.nx m)) = some (.nx ((m.set i .un).map clr)) := rfl
@[simp] theorem k_tryJ2 : tryJ i (some (.rt d)) = some (.rt d) := rfl
@[simp] theorem k_try1 {cl : List Str} {fs : Str → S} : tryK cl i fs (some (.exc c m)) = if c ∈ cl then tryJ i (fs c (m.set i (.exc c))) else none := rfl
@[simp] theorem k_try2 {cl : List Str} {fs : Str → S} : tryK cl i fs (some (.nx m)) = some (.nx m) := rfl
@[simp] theorem k_try3 {cl : List Str} {fs : Str → S} : tryK cl i fs (some (.rt d)) = some (.rt d) := rfl
@[simp] theorem k_try4 {cl : List Str} {fs : Str → S} : tryK cl i fs (some (.bk m)) = some (.bk m) := rfl
@[simp] theorem k_try5 {cl : List Str} {fs : Str → S} : tryK cl i fs (some (.ct m)) = some (.ct m) := rfl
@[simp] theorem k_isx {cl : List Str} {a b : Str} : isxK cl a b (some (.exc c)) = if b ∈ cl then some (.ok (.bool (decide (a = b)))) else none := rfl
@[simp] theorem k_clr1 : clr (.exc c) = .un := rfl
@[simp] theorem k_clr2 : clr (.dat d) = .dat d := rfl
@[simp] theorem k_clr3 : clr .un = .un := rfl
@[simp] theorem k_clr4 : clr (.own ds) = .own ds := rfl
@[simp] theorem k_mtA {T : String} {o : MP.D → MP.D → Option MP.D} : mtA T o fb m (some (.ok x)) = if tyOk T x then mtB o x (fb m) else none := rfl
@[simp] theorem k_mtB {o : MP.D → MP.D → Option MP.D} : mtB o x (some (.ok y)) = ret (o x y) := rfl
@[simp] theorem k_tyL : tyOk "list" (.list xs) = true := rfl
@[simp] theorem k_slA {lo hi : EP'} : slA lo hi m (some (.ok d)) = slB d hi m (lo m) := rfl
@[simp] theorem k_slB {hi : EP'} {u : Option Int} : slB d hi m (some (.ok u)) = slC d u (hi m) := rfl
@[simp] theorem k_slC {u v : Option Int} : slC d u (some (.ok v)) = ret (gCut d u v) := rfl
@[simp] theorem k_p : pK (some (.ok (.int n))) = some (.ok (some n)) := rfl
@[simp] theorem k_cutL {u v : Option Int} : gCut (.list xs) u v = some (.list (cut xs u v)) := rfl
@[simp] theorem k_cutT {u v : Option Int} : gCut (.tuple xs) u v = some (.tuple (cut xs u v)) := rfl
@[simp] theorem k_rB {h : List MP.D → Option MP.D} : rB h ds = ret (h ds) := rfl
@[simp] theorem k_mkT : mkT ds = if ds.length ≤ 1000 then some (.ok (.tuple ds)) else none := rfl
@[simp] theorem k_mkL : mkL ds = if ds.length ≤ 1000 then some (.ok (.list ds)) else none := rfl
@[simp] theorem k_endNx : endD (some (.nx m)) = some (.ok .none) := rfl
@[simp] theorem k_endRt : endD (some (.rt d)) = some (.ok d) := rfl
@[simp] theorem k_endExc : endD (some (.exc c m)) = some (.exc c) := rfl
@[simp] theorem o_addI : gAdd (.int n) (.int k) = some (.int (n + k)) := rfl
@[simp] theorem o_addL : gAdd (.list xs) (.list ys) = if xs.length + ys.length ≤ line then some (.list (xs ++ ys)) else none := rfl
@[simp] theorem o_addT : gAdd (.tuple xs) (.tuple ys) = if xs.length + ys.length ≤ line then some (.tuple (xs ++ ys)) else none := rfl
@[simp] theorem o_sub : gSub (.int n) (.int k) = some (.int (n - k)) := rfl
@[simp] theorem o_mul : gMul (.int n) (.int k) = if (-18446744073709551616 < n ∧ n < 18446744073709551616) ∨ (-18446744073709551616 < k ∧ k < 18446744073709551616) then some (.int (n * k)) else none := rfl
@[simp] theorem o_fdiv : gFdiv (.int n) (.int k) = if 0 < k ∧ k < 18446744073709551616 then some (.int (n / k)) else none := rfl
@[simp] theorem o_mod : gMod (.int n) (.int k) = if 0 < k then some (.int (n % k)) else none := rfl
@[simp] theorem o_pow : gPow (.int n) (.int k) = if 0 ≤ k ∧ k ≤ 100 ∧ n.natAbs < 1000 then some (.int (n ^ k.toNat)) else none := rfl
@[simp] theorem o_rep : gRep (.list xs) (.int k) = if 0 ≤ k ∧ k ≤ 1000 ∧ xs.length ≤ 10 then some (.list (List.replicate k.toNat xs).flatten) else none := rfl
@[simp] theorem o_neg : gNeg (.int n) = some (.int (-n)) := rfl
@[simp] theorem o_lt : gLt (.int n) (.int k) = some (.bool (decide (n < k))) := rfl
@[simp] theorem o_le : gLe (.int n) (.int k) = some (.bool (decide (n ≤ k))) := rfl
@[simp] theorem o_gt : gGt (.int n) (.int k) = some (.bool (decide (k < n))) := rfl
@[simp] theorem o_ge : gGe (.int n) (.int k) = some (.bool (decide (k ≤ n))) := rfl
@[simp] theorem o_idxL : gIdx (.list xs) (.int n) = atI xs n := rfl
@[simp] theorem o_idxT : gIdx (.tuple xs) (.int n) = atI xs n := rfl
@[simp] theorem o_lenL : bLen [.list xs] = some (.int xs.length) := rfl
@[simp] theorem o_lenT : bLen [.tuple xs] = some (.int xs.length) := rfl
@[simp] theorem o_isN : gIsN d .none = some (.bool (isNoneD d)) := rfl
@[simp] theorem o_isNotN : gIsNotN d .none = some (.bool (!isNoneD d)) := rfl
@[simp] theorem o_tupL : bTuple [.list xs] = some (.tuple xs) := rfl
@[simp] theorem o_tupT : bTuple [.tuple xs] = some (.tuple xs) := rfl
@[simp] theorem o_listL : bList [.list xs] = some (.list xs) := rfl
@[simp] theorem o_listT : bList [.tuple xs] = some (.list xs) := rfl
@[simp] theorem o_int : bInt [.int n] = some (.int n) := rfl
@[simp] theorem o_abs : bAbs [.int n] = some (.int (if n < 0 then -n else n)) := rfl
@[simp] theorem o_max2 : bMax2 [.int n, .int k] = some (.int (if k > n then k else n)) := rfl
@[simp] theorem o_min2 : bMin2 [.int n, .int k] = some (.int (if k < n then k else n)) := rfl
end
end MP

set_option Elab.async false
set_option linter.all false
set_option maxRecDepth 100000
namespace MP
open PySem PySem.Spec PyProof.Rows L2
/-! ### loops -/
theorem forGo_ind {t : Tg} {fb : S} (R : List MP.D → En → Prop) (whole : List MP.D) (step : ∀ done d rest m', whole = done ++ d :: rest → R done m' → ∃ m1 m2, bindT t d m' = some m1 ∧ (fb m1 = some (.nx m2) ∨ fb m1 = some (.ct m2)) ∧ R (done ++ [d]) m2) :
    ∀ (ds done : List MP.D) (m : En), whole = done ++ ds → R done m → ∃ m', forGo t fb ds m = some (.nx m') ∧ R whole m'
  | [], done, m, e, h => ⟨m, rfl, by rw [e, List.append_nil]; exact h⟩
  | d :: ds, done, m, e, h => by
    obtain ⟨m1, m2, h1, h2, h3⟩ := step done d ds m e h
    obtain ⟨m', h4, h5⟩ := forGo_ind R whole step ds (done ++ [d]) m2 (by rw [e]; simp) h3
    refine ⟨m', ?_, h5⟩
    unfold forGo
    rw [h1]
    rcases h2 with h2 | h2
    · simp only [h2]; exact h4
    · simp only [h2]; exact h4
/-- a for loop whose body always goes on: by an invariant on what is done -/
theorem for_inv {t : Tg} {fb : S} {ds : List MP.D} {m : En} (R : List MP.D → En → Prop) (h0 : R [] m)
    (step : ∀ done d rest m', ds = done ++ d :: rest → R done m' → ∃ m1 m2, bindT t d m' = some m1 ∧ (fb m1 = some (.nx m2) ∨ fb m1 = some (.ct m2)) ∧ R (done ++ [d]) m2) : ∃ m', forGo t fb ds m = some (.nx m') ∧ R ds m' :=
  forGo_ind R ds step ds [] m rfl h0
theorem while_inv {fc : E} {fb : S} (R : En → Prop) (μ : En → Nat) : ∀ (n : Nat) (m : En), R m → μ m < n →
    (∀ m, R m → (fc m = some (.ok (.bool false))) ∨ (fc m = some (.ok (.bool true)) ∧ ∃ m2, fb m = some (.nx m2) ∧ R m2 ∧ μ m2 < μ m)) →
    ∃ m', whileGo fc fb n m = some (.nx m') ∧ R m' ∧ fc m' = some (.ok (.bool false))
  | 0, m, _, h, _ => by omega
  | n + 1, m, hR, h, step => by
    rcases step m hR with e | ⟨e, m2, h1, h2, h3⟩
    · exact ⟨m, by unfold whileGo; rw [e]; rfl, hR, e⟩
    · obtain ⟨m', g1, g2⟩ := while_inv R μ n m2 h2 (by omega) step
      refine ⟨m', ?_, g2⟩
      unfold whileGo
      rw [e]
      simp only [bndS, h1]
      exact g1
/-- the same, behind generalize hF : forGo _ _ _ _ = o -/
theorem for_of {t : Tg} {fb : S} {ds : List MP.D} {m : En} {o : Option Out} (hF : forGo t fb ds m = o) (R : List MP.D → En → Prop) (h0 : R [] m)
    (step : ∀ done d rest m', ds = done ++ d :: rest → R done m' → ∃ m1 m2, bindT t d m' = some m1 ∧ (fb m1 = some (.nx m2) ∨ fb m1 = some (.ct m2)) ∧ R (done ++ [d]) m2) : ∃ m', o = some (.nx m') ∧ R ds m' := by
  obtain ⟨m', h1, h2⟩ := for_inv R h0 step
  exact ⟨m', hF.symm.trans h1, h2⟩
theorem while_of {fc : E} {fb : S} {n : Nat} {m : En} {o : Option Out} (hF : whileGo fc fb n m = o) (R : En → Prop) (μ : En → Nat) (h0 : R m) (hn : μ m < n)
    (step : ∀ m, R m → (fc m = some (.ok (.bool false))) ∨ (fc m = some (.ok (.bool true)) ∧ ∃ m2, fb m = some (.nx m2) ∧ R m2 ∧ μ m2 < μ m)) :
    ∃ m', o = some (.nx m') ∧ R m' ∧ fc m' = some (.ok (.bool false)) := by
  obtain ⟨m', h1, h2⟩ := while_inv R μ n m h0 hn step
  exact ⟨m', hF.symm.trans h1, h2⟩
/-- a comprehension: p keeps, h maps -/
theorem comp_map {t : Tg} {fc fl : E} {m : En} (p : MP.D → Bool) (h : MP.D → MP.D) : ∀ ds : List MP.D, (∀ d ∈ ds, ∃ m1, bindT t d m = some m1 ∧ fc m1 = some (.ok (.bool (p d))) ∧ (p d = true → fl m1 = some (.ok (h d)))) → compGo t fc fl m ds = some ((ds.filter p).map h)
  | [], _ => rfl
  | d :: ds, q => by
    obtain ⟨m1, h1, h2, h3⟩ := q d List.mem_cons_self
    have ih := comp_map p h ds fun e he => q e (List.mem_cons_of_mem _ he)
    unfold compGo
    rw [h1]
    simp only [h2]
    cases hp : p d with
    | false => simp [ih, hp]
    | true => simp [h3 hp, ih, hp]
theorem comp_all {t : Tg} {fl : E} {m : En} (h : MP.D → MP.D) (ds : List MP.D) (q : ∀ d ∈ ds, ∃ m1, bindT t d m = some m1 ∧ fl m1 = some (.ok (h d))) : compGo t (eC (.bool true)) fl m ds = some (ds.map h) := by
  have := comp_map (t := t) (fc := eC (.bool true)) (fl := fl) (m := m) (fun _ => true) h ds fun d hd => by
    obtain ⟨m1, h1, h2⟩ := q d hd
    exact ⟨m1, h1, rfl, fun _ => h2⟩
  rw [this, List.filter_eq_self.mpr fun _ _ => rfl]
theorem comp2_all {vs1 : List Nat} {t t1 : Tg} {fi1 : EL} {fl : E} {m : En} (es : MP.D → List MP.D) (h : MP.D → MP.D → MP.D) : ∀ ds : List MP.D, (∀ d ∈ ds, ∃ m1, bindT t d m = some m1 ∧ fi1 m1 = some (.ok (es d)) ∧ (es d).length ≤ 1000 ∧ ∀ e ∈ es d, ∃ m2, bindT t1 e (wipeM m1 vs1) = some m2 ∧ fl m2 = some (.ok (h d e))) →
    comp2Go vs1 t t1 fi1 fl m ds = some (ds.flatMap fun d => (es d).map (h d))
  | [], _ => rfl
  | d :: ds, q => by
    obtain ⟨m1, h1, h2, h3, h4⟩ := q d List.mem_cons_self
    have ih := comp2_all es h ds fun e he => q e (List.mem_cons_of_mem _ he)
    unfold comp2Go
    rw [h1]
    simp only [h2, if_pos h3, comp_all (h d) (es d) h4, ih]
    simp
theorem mid_mem {ds done rest : List MP.D} {d : MP.D} (h : ds = done ++ d :: rest) : d ∈ ds := by rw [h]; simp
theorem mid_len {ds done rest : List MP.D} {d : MP.D} (h : ds = done ++ d :: rest) : done.length < ds.length := by rw [h]; simp
/-- the int in a slot -/
def intAt (i : Nat) (m : En) : Nat := match m[i]? with
  | some (.dat (.int t)) => t.toNat
  | _ => 0
/-! ### small facts -/
theorem str_inj {a b : String} (h : Str.ofString a = Str.ofString b) : a = b := by
  rw [Str.ofString_eq_toList, Str.ofString_eq_toList] at h
  have h1 : a.toList.map Char.toNat = b.toList.map Char.toNat := by
    have := congrArg (fun s : Str => s.cps.toList) h
    simpa using this
  have h2 : a.toList = b.toList := by
    refine List.map_inj_right (f := Char.toNat) (fun x y e => ?_) |>.mp h1
    exact Char.ext (UInt32.toNat_inj.mp e)
  exact String.toList_inj.mp h2
@[simp] theorem str_eq {a b : String} : (Str.ofString a = Str.ofString b) ↔ a = b := ⟨str_inj, fun h => by rw [h]⟩
theorem line_eq : line = 100000 := rfl
@[simp] theorem eqv_bool {a b : Bool} : PyData.eqv (.bool a) (.bool b) = (a == b) := by simp [PyData.eqv]
@[simp] theorem dep_int {n : Nat} {i : Int} : dep n (.int i) = true := by cases n <;> rfl
@[simp] theorem dep_bool {n : Nat} {i : Bool} : dep n (.bool i) = true := by cases n <;> rfl
@[simp] theorem dep_none {n : Nat} : dep n .none = true := by cases n <;> rfl
@[simp] theorem dep_list {n : Nat} {xs : List MP.D} : dep (n + 1) (.list xs) = xs.all (dep n) := rfl
@[simp] theorem dep_tup {n : Nat} {xs : List MP.D} : dep (n + 1) (.tuple xs) = xs.all (dep n) := rfl
@[simp] theorem small_eq {d : MP.D} : small d = dep 8 d := rfl
@[simp] theorem dep_ints {n : Nat} {ns : List Int} : (ns.map PyData.int).all (dep n) = true := by simp
@[simp] theorem o_ne {d e : MP.D} : gNe d e = if (small d && small e) = true then some (.bool (!PyData.eqv d e)) else none := rfl
@[simp] theorem o_eq {d e : MP.D} : gEq d e = if (small d && small e) = true then some (.bool (PyData.eqv d e)) else none := rfl
@[simp] theorem o_inL {d : MP.D} {ds : List MP.D} : gInL d (.list ds) = if (small d && small (.list ds)) = true then some (.bool (ds.any fun z => PyData.eqv z d)) else none := rfl
@[simp] theorem o_notInL {d : MP.D} {ds : List MP.D} : gNotInL d (.list ds) = if (small d && small (.list ds)) = true then some (.bool (!ds.any fun z => PyData.eqv z d)) else none := rfl
@[simp] theorem o_index {d : MP.D} {ds : List MP.D} : gIndex (.list ds) d = if (small (.list ds) && small d) = true then (firstAt d ds 0).map (fun j => .int (j : Nat)) else none := rfl
theorem atI_pos {α : Type} {xs : List α} {i : Int} (h0 : 0 ≤ i) (h1 : i < xs.length) : atI xs i = xs[i.toNat]? := by
  unfold atI ixN
  rw [if_pos h0, if_pos h1]
  rfl
theorem atI_get {α : Type} {xs : List α} {i : Int} (h0 : 0 ≤ i) (h1 : i < xs.length) : ∃ h : i.toNat < xs.length, atI xs i = some xs[i.toNat] := by
  have h : i.toNat < xs.length := by omega
  exact ⟨h, by rw [atI_pos h0 h1, List.getElem?_eq_getElem h]⟩
@[simp] theorem eqv_int {i j : Int} : PyData.eqv (.int i) (.int j) = (i == j) := by simp [PyData.eqv]
@[simp] theorem eqv_list {xs ys : List MP.D} : PyData.eqv (.list xs) (.list ys) = PyData.eqvAll xs ys := by simp [PyData.eqv]
@[simp] theorem eqv_tup {xs ys : List MP.D} : PyData.eqv (.tuple xs) (.tuple ys) = PyData.eqvAll xs ys := by simp [PyData.eqv]
@[simp] theorem eqvAll_nil : PyData.eqvAll [] [] = true := by simp [PyData.eqvAll]
@[simp] theorem eqvAll_cons {x y : MP.D} {xs ys : List MP.D} : PyData.eqvAll (x :: xs) (y :: ys) = (PyData.eqv x y && PyData.eqvAll xs ys) := by simp [PyData.eqvAll]
@[simp] theorem eqvAll_nc {x : MP.D} {xs : List MP.D} : PyData.eqvAll [] (x :: xs) = false := by simp [PyData.eqvAll]
@[simp] theorem eqvAll_cn {x : MP.D} {xs : List MP.D} : PyData.eqvAll (x :: xs) [] = false := by simp [PyData.eqvAll]
theorem eqvAll_refl {xs : List MP.D} (h : ∀ x ∈ xs, PyData.eqv x x = true) : PyData.eqvAll xs xs = true := by
  induction xs with
  | nil => simp
  | cons x xs ih => simp [h x, ih fun y hy => h y (List.mem_cons_of_mem _ hy)]
end MP

set_option Elab.async false
set_option linter.all false
set_option maxRecDepth 100000
set_option maxHeartbeats 1000000
namespace MP
open PySem PySem.Spec PyProof.Rows L2
/-! ### isinstance -/
section
variable {i : Int} {b : Bool} {z : Str} {xs : List MP.D}
@[simp] theorem isi_in : gIsi "int" .none = some (.bool false) := by
  have h : kitB "NoneType" "int" = some false := by decide +kernel
  show (kitB "NoneType" "int").map PyData.bool = _
  rw [h] <;> rfl
@[simp] theorem isi_ii : gIsi "int" (.int i) = some (.bool true) := by
  have h : kitB "int" "int" = some true := by decide +kernel
  show (kitB "int" "int").map PyData.bool = _
  rw [h] <;> rfl
@[simp] theorem isi_ib : gIsi "int" (.bool b) = some (.bool true) := by
  have h : kitB "bool" "int" = some true := by decide +kernel
  show (kitB "bool" "int").map PyData.bool = _
  rw [h] <;> rfl
@[simp] theorem isi_is : gIsi "int" (.str z) = some (.bool false) := by
  have h : kitB "str" "int" = some false := by decide +kernel
  show (kitB "str" "int").map PyData.bool = _
  rw [h] <;> rfl
@[simp] theorem isi_il : gIsi "int" (.list xs) = some (.bool false) := by
  have h : kitB "list" "int" = some false := by decide +kernel
  show (kitB "list" "int").map PyData.bool = _
  rw [h] <;> rfl
@[simp] theorem isi_it : gIsi "int" (.tuple xs) = some (.bool false) := by
  have h : kitB "tuple" "int" = some false := by decide +kernel
  show (kitB "tuple" "int").map PyData.bool = _
  rw [h] <;> rfl
@[simp] theorem isi_bn : gIsi "bool" .none = some (.bool false) := by
  have h : kitB "NoneType" "bool" = some false := by decide +kernel
  show (kitB "NoneType" "bool").map PyData.bool = _
  rw [h] <;> rfl
@[simp] theorem isi_bi : gIsi "bool" (.int i) = some (.bool false) := by
  have h : kitB "int" "bool" = some false := by decide +kernel
  show (kitB "int" "bool").map PyData.bool = _
  rw [h] <;> rfl
@[simp] theorem isi_bb : gIsi "bool" (.bool b) = some (.bool true) := by
  have h : kitB "bool" "bool" = some true := by decide +kernel
  show (kitB "bool" "bool").map PyData.bool = _
  rw [h] <;> rfl
@[simp] theorem isi_bs : gIsi "bool" (.str z) = some (.bool false) := by
  have h : kitB "str" "bool" = some false := by decide +kernel
  show (kitB "str" "bool").map PyData.bool = _
  rw [h] <;> rfl
@[simp] theorem isi_bl : gIsi "bool" (.list xs) = some (.bool false) := by
  have h : kitB "list" "bool" = some false := by decide +kernel
  show (kitB "list" "bool").map PyData.bool = _
  rw [h] <;> rfl
@[simp] theorem isi_bt : gIsi "bool" (.tuple xs) = some (.bool false) := by
  have h : kitB "tuple" "bool" = some false := by decide +kernel
  show (kitB "tuple" "bool").map PyData.bool = _
  rw [h] <;> rfl
@[simp] theorem isi_tn : gIsi "tuple" .none = some (.bool false) := by
  have h : kitB "NoneType" "tuple" = some false := by decide +kernel
  show (kitB "NoneType" "tuple").map PyData.bool = _
  rw [h] <;> rfl
@[simp] theorem isi_ti : gIsi "tuple" (.int i) = some (.bool false) := by
  have h : kitB "int" "tuple" = some false := by decide +kernel
  show (kitB "int" "tuple").map PyData.bool = _
  rw [h] <;> rfl
@[simp] theorem isi_tb : gIsi "tuple" (.bool b) = some (.bool false) := by
  have h : kitB "bool" "tuple" = some false := by decide +kernel
  show (kitB "bool" "tuple").map PyData.bool = _
  rw [h] <;> rfl
@[simp] theorem isi_ts : gIsi "tuple" (.str z) = some (.bool false) := by
  have h : kitB "str" "tuple" = some false := by decide +kernel
  show (kitB "str" "tuple").map PyData.bool = _
  rw [h] <;> rfl
@[simp] theorem isi_tl : gIsi "tuple" (.list xs) = some (.bool false) := by
  have h : kitB "list" "tuple" = some false := by decide +kernel
  show (kitB "list" "tuple").map PyData.bool = _
  rw [h] <;> rfl
@[simp] theorem isi_tt : gIsi "tuple" (.tuple xs) = some (.bool true) := by
  have h : kitB "tuple" "tuple" = some true := by decide +kernel
  show (kitB "tuple" "tuple").map PyData.bool = _
  rw [h] <;> rfl
@[simp] theorem isi_ln : gIsi "list" .none = some (.bool false) := by
  have h : kitB "NoneType" "list" = some false := by decide +kernel
  show (kitB "NoneType" "list").map PyData.bool = _
  rw [h] <;> rfl
@[simp] theorem isi_li : gIsi "list" (.int i) = some (.bool false) := by
  have h : kitB "int" "list" = some false := by decide +kernel
  show (kitB "int" "list").map PyData.bool = _
  rw [h] <;> rfl
@[simp] theorem isi_lb : gIsi "list" (.bool b) = some (.bool false) := by
  have h : kitB "bool" "list" = some false := by decide +kernel
  show (kitB "bool" "list").map PyData.bool = _
  rw [h] <;> rfl
@[simp] theorem isi_ls : gIsi "list" (.str z) = some (.bool false) := by
  have h : kitB "str" "list" = some false := by decide +kernel
  show (kitB "str" "list").map PyData.bool = _
  rw [h] <;> rfl
@[simp] theorem isi_ll : gIsi "list" (.list xs) = some (.bool true) := by
  have h : kitB "list" "list" = some true := by decide +kernel
  show (kitB "list" "list").map PyData.bool = _
  rw [h] <;> rfl
@[simp] theorem isi_lt : gIsi "list" (.tuple xs) = some (.bool false) := by
  have h : kitB "tuple" "list" = some false := by decide +kernel
  show (kitB "tuple" "list").map PyData.bool = _
  rw [h] <;> rfl
@[simp] theorem isi_sn : gIsi "str" .none = some (.bool false) := by
  have h : kitB "NoneType" "str" = some false := by decide +kernel
  show (kitB "NoneType" "str").map PyData.bool = _
  rw [h] <;> rfl
@[simp] theorem isi_si : gIsi "str" (.int i) = some (.bool false) := by
  have h : kitB "int" "str" = some false := by decide +kernel
  show (kitB "int" "str").map PyData.bool = _
  rw [h] <;> rfl
@[simp] theorem isi_sb : gIsi "str" (.bool b) = some (.bool false) := by
  have h : kitB "bool" "str" = some false := by decide +kernel
  show (kitB "bool" "str").map PyData.bool = _
  rw [h] <;> rfl
@[simp] theorem isi_ss : gIsi "str" (.str z) = some (.bool true) := by
  have h : kitB "str" "str" = some true := by decide +kernel
  show (kitB "str" "str").map PyData.bool = _
  rw [h] <;> rfl
@[simp] theorem isi_sl : gIsi "str" (.list xs) = some (.bool false) := by
  have h : kitB "list" "str" = some false := by decide +kernel
  show (kitB "list" "str").map PyData.bool = _
  rw [h] <;> rfl
@[simp] theorem isi_st : gIsi "str" (.tuple xs) = some (.bool false) := by
  have h : kitB "tuple" "str" = some false := by decide +kernel
  show (kitB "tuple" "str").map PyData.bool = _
  rw [h] <;> rfl
end
theorem start0_def {n : Nat} {ds : List MP.D} : start0 n ds = ds.map Sl.dat ++ List.replicate (n - ds.length) Sl.un := rfl
/-! ### teeth -/
@[simp] theorem is_int_i {i a b : Int} : g_is_int [.int i, .int a, .int b] = some (.ok (.bool (decide (a ≤ i) && decide (i ≤ b)))) := by
  by_cases h : a ≤ i <;> simp [g_is_int, mkG, runD, b_is_int, start0, h]
@[simp] theorem is_int_n {a b : Int} : g_is_int [.none, .int a, .int b] = some (.ok (.bool false)) := by simp [g_is_int, mkG, runD, b_is_int, start0]
@[simp] theorem is_int_b {c : Bool} {a b : Int} : g_is_int [.bool c, .int a, .int b] = some (.ok (.bool false)) := by simp [g_is_int, mkG, runD, b_is_int, start0]
@[simp] theorem is_int_s {c : Str} {a b : Int} : g_is_int [.str c, .int a, .int b] = some (.ok (.bool false)) := by simp [g_is_int, mkG, runD, b_is_int, start0]
@[simp] theorem is_int_l {c : List MP.D} {a b : Int} : g_is_int [.list c, .int a, .int b] = some (.ok (.bool false)) := by simp [g_is_int, mkG, runD, b_is_int, start0]
@[simp] theorem is_int_t {c : List MP.D} {a b : Int} : g_is_int [.tuple c, .int a, .int b] = some (.ok (.bool false)) := by simp [g_is_int, mkG, runD, b_is_int, start0]
theorem boolsD_true {α : Type} (ds : List α) : boolsD (ds.map fun _ => PyData.bool true) = some (ds.map fun _ => true) := by
  have := boolsD_map (ds.map fun _ => true)
  rw [List.map_map] at this
  exact this
theorem all_true {α : Type} (ds : List α) : bAll [.list (ds.map fun _ => PyData.bool true)] = some (.bool true) := by
  show (boolsD (ds.map fun _ => PyData.bool true)).map (fun bs => PyData.bool (bs.all id)) = _
  rw [boolsD_true]
  simp
theorem cut_one {xs : List MP.D} : cut xs (some 1) none = xs.drop 1 := by
  unfold cut
  cases xs with
  | nil => simp [HT.sIx]
  | cons x xs =>
    have h1 : HT.sIx (x :: xs).length 0 (some 1) = 1 := by unfold HT.sIx; simp; try omega
    have h2 : HT.sIx (x :: xs).length (x :: xs).length none = (x :: xs).length := by unfold HT.sIx; rfl
    rw [h1, h2]
    simp
structure Teeth (ts : List Int) (most least greatest : Int) : Prop where
  l1 : 1 ≤ ts.length
  l2 : (ts.length : Int) ≤ most
  b : ∀ t ∈ ts, least ≤ t ∧ t ≤ greatest
  a : ts.Pairwise (· < ·)
theorem zip_asc : ∀ {ts : List Int}, ts.Pairwise (· < ·) → ∀ d ∈ pairs (ts.map PyData.int) ((ts.map PyData.int).drop 1), ∃ a b : Int, d = .tuple [.int a, .int b] ∧ a < b
  | [], _, d, h => by simp [pairs] at h
  | [x], _, d, h => by simp [pairs] at h
  | x :: y :: r, hp, d, h => by
    simp only [List.map_cons, List.drop_succ_cons, List.drop_zero, pairs, List.zip_cons_cons, List.mem_cons] at h
    rcases h with h | h
    · exact ⟨x, y, h, (List.pairwise_cons.mp hp).1 y List.mem_cons_self⟩
    · exact zip_asc (List.pairwise_cons.mp hp).2 d (by simpa [pairs] using h)
theorem are_teeth_ok {ts : List Int} {most least greatest : Int} (h : Teeth ts most least greatest) (hm : most ≤ 1000) : g_are_teeth [.tuple (ts.map PyData.int), .int most, .int least, .int greatest] = some (.ok (.bool true)) := by
  have l1 : (1 : Int) ≤ ts.length := by have := h.l1; omega
  have l2 := h.l2
  have hl : ts.length ≤ line := by show ts.length ≤ 100000; omega
  unfold g_are_teeth mkG runD
  simp only [b_are_teeth, start0]
  simp [l1, l2, hl]
  rw [comp_all (fun _ => PyData.bool true) (ts.map PyData.int) (by
    intro d hd
    obtain ⟨t, ht, rfl⟩ := List.mem_map.mp hd
    obtain ⟨b1, b2⟩ := h.b t ht
    exact ⟨_, rfl, by simp [b1, b2]⟩)]
  simp only [k_lst, k_elB, k_bndL, k_rB, all_true, k_ret, k_not, Bool.not_true, k_if2, x_skip, k_seq1, k_elA, x_elNil]
  have hp : (pairs (ts.map PyData.int) (cut (ts.map PyData.int) (some 1) none)).length ≤ line := by
    rw [cut_one]
    unfold pairs
    simp
    omega
  simp [hp]
  rw [comp_all (fun _ => PyData.bool true) _ (by
    intro d hd
    rw [cut_one] at hd
    obtain ⟨a, b, rfl, hab⟩ := zip_asc h.a d hd
    exact ⟨_, by simp; rfl, by simp [hab]⟩)]
  simp [all_true]
end MP

set_option Elab.async false
set_option linter.all false
set_option maxRecDepth 100000
set_option maxHeartbeats 1000000
namespace MP
open PySem PySem.Spec PyProof.Rows L2
/-! ### bicycles -/
def teethD (ts : List Int) : MP.D := .tuple (ts.map PyData.int)
def bikeD (rs cs : List Int) : MP.D := .tuple [teethD rs, teethD cs]
def gearD (i j : Int) : MP.D := .tuple [.int i, .int j]
structure Bike (rs cs : List Int) : Prop where
  r : Teeth rs 3 10 60
  c : Teeth cs 8 8 50
/-- a gear of so many rings and cogs -/
structure Gear (rs cs : List Int) (i j : Int) : Prop where
  i0 : 0 ≤ i
  i1 : i < rs.length
  j0 : 0 ≤ j
  j1 : j < cs.length
section
variable {rs cs : List Int} {i j : Int}
theorem are_rings_ok (h : Teeth rs 3 10 60) : g_are_rings [teethD rs] = some (.ok (.bool true)) := by
  simp [g_are_rings, mkG, runD, b_are_rings, start0, teethD, are_teeth_ok h]
theorem are_cogs_ok (h : Teeth cs 8 8 50) : g_are_cogs [teethD cs] = some (.ok (.bool true)) := by
  simp [g_are_cogs, mkG, runD, b_are_cogs, start0, teethD, are_teeth_ok h]
@[simp] theorem atI_0 {α : Type} {x : α} {xs : List α} : atI (x :: xs) 0 = some x := by
  unfold atI ixN
  simp
@[simp] theorem atI_1 {α : Type} {x y : α} {xs : List α} : atI (x :: y :: xs) 1 = some y := by
  unfold atI ixN
  simp
  have : (1 : Int) < (xs.length : Int) + 1 + 1 := by omega
  simp [this]
theorem is_bike_ok (h : Bike rs cs) : g_is_bike [bikeD rs cs] = some (.ok (.bool true)) := by
  simp [g_is_bike, mkG, runD, b_is_bike, start0, bikeD, are_rings_ok h.r, are_cogs_ok h.c]
theorem check_bike_ok (h : Bike rs cs) : g_check_bike [bikeD rs cs] = some (.ok .none) := by
  simp [g_check_bike, mkG, runD, b_check_bike, start0, is_bike_ok h]
theorem check_bike_no {d : MP.D} (h : g_is_bike [d] = some (.ok (.bool false))) : g_check_bike [d] = some (.exc "InvalidBike") := by
  simp [g_check_bike, mkG, runD, b_check_bike, start0, h]
theorem has_gear_ok (h : Gear rs cs i j) : g_has_gear [bikeD rs cs, gearD i j] = some (.ok (.bool true)) := by
  have h1 := h.i0; have h2 := h.i1; have h3 := h.j0; have h4 := h.j1
  have a1 : i ≤ (rs.length : Int) - 1 := by omega
  have a2 : j ≤ (cs.length : Int) - 1 := by omega
  simp [g_has_gear, mkG, runD, b_has_gear, start0, bikeD, gearD, teethD, h1, h3, a1, a2]
theorem check_gear_ok (h : Gear rs cs i j) : g_check_gear [bikeD rs cs, gearD i j] = some (.ok .none) := by
  simp [g_check_gear, mkG, runD, b_check_gear, start0, has_gear_ok h]
theorem check_gear_no {b d : MP.D} (h : g_has_gear [b, d] = some (.ok (.bool false))) : g_check_gear [b, d] = some (.exc "InvalidGear") := by
  simp [g_check_gear, mkG, runD, b_check_gear, start0, h]
/-! ### all gears -/
def gearsOf (n k : Nat) : List MP.D := (List.range n).flatMap fun i : Nat => (List.range k).map fun j : Nat => gearD i j
theorem mem_gears {n k : Nat} {d : MP.D} : d ∈ gearsOf n k ↔ ∃ i j : Nat, i < n ∧ j < k ∧ d = gearD i j := by
  unfold gearsOf
  simp only [List.mem_flatMap, List.mem_range, List.mem_map]
  exact ⟨fun ⟨i, hi, j, hj, e⟩ => ⟨i, j, hi, hj, e.symm⟩, fun ⟨i, j, hi, hj, e⟩ => ⟨i, hi, j, hj, e.symm⟩⟩
theorem irange0 (n : Nat) : irange 0 n = (List.range n).map fun k : Nat => PyData.int k := by
  unfold irange
  simp
theorem all_gears_ok (hr : rs.length ≤ 1000) (hc : cs.length ≤ 1000) : g_all_gears [bikeD rs cs] = some (.ok (.list (gearsOf rs.length cs.length))) := by
  have a1 : (-1000000 : Int) ≤ rs.length ∧ (rs.length : Int) ≤ 1000000 := by omega
  have a2 : (-1000000 : Int) ≤ cs.length ∧ (cs.length : Int) ≤ 1000000 := by omega
  unfold g_all_gears mkG runD
  simp only [b_all_gears, start0]
  simp [bikeD, teethD, a1, hr, irange0]
  rw [comp2_all (fun _ => (List.range cs.length).map fun k : Nat => PyData.int k) (fun d e => .tuple [d, e]) _ (by
    intro d hd
    refine ⟨_, rfl, by simp [a2, irange0], by simp [hc], fun e he => ⟨_, rfl, by simp⟩⟩)]
  simp [gearsOf, List.flatMap_map, gearD, Function.comp_def]
/-! ### teeth of a gear -/
theorem atI_map {α β : Type} {f : α → β} {xs : List α} {i : Int} : atI (xs.map f) i = (atI xs i).map f := by
  unfold atI
  rw [List.length_map]
  cases ixN xs.length i with
  | none => rfl
  | some j => simp
/-- the i-th, 0 beyond -/
def nth (ts : List Int) (i : Int) : Int := (atI ts i).getD 0
theorem nth_ok {ts : List Int} (h0 : 0 ≤ i) (h1 : i < ts.length) : atI ts i = some (nth ts i) ∧ nth ts i ∈ ts := by
  obtain ⟨h, e⟩ := atI_get h0 h1
  unfold nth
  rw [e]
  exact ⟨rfl, List.getElem_mem h⟩
theorem nthD {ts : List Int} (h0 : 0 ≤ i) (h1 : i < ts.length) : atI (ts.map PyData.int) i = some (.int (nth ts i)) := by
  rw [atI_map, (nth_ok h0 h1).1]
  rfl
@[simp] theorem idx_b0 : gIdx (bikeD rs cs) (.int 0) = some (teethD rs) := by simp [bikeD]
@[simp] theorem idx_b1 : gIdx (bikeD rs cs) (.int 1) = some (teethD cs) := by simp [bikeD]
@[simp] theorem idx_g0 : gIdx (gearD i j) (.int 0) = some (.int i) := by simp [gearD]
@[simp] theorem idx_g1 : gIdx (gearD i j) (.int 1) = some (.int j) := by simp [gearD]
@[simp] theorem len_t : bLen [teethD rs] = some (.int rs.length) := by simp [teethD]
theorem idx_t {ts : List Int} (h0 : 0 ≤ i) (h1 : i < ts.length) : gIdx (teethD ts) (.int i) = some (.int (nth ts i)) := nthD h0 h1
theorem twice_needed_ok {s : Int} (h : Gear rs cs i j) (hs : -1000 < s ∧ s < 1000) : g_twice_needed [bikeD rs cs, gearD i j, .int s] = some (.ok (.int (4 * s + nth rs i + nth cs j))) := by
  have a : -18446744073709551616 < s ∧ s < 18446744073709551616 := by omega
  simp [g_twice_needed, mkG, runD, b_twice_needed, start0, bikeD, gearD, teethD, nthD h.i0 h.i1, nthD h.j0 h.j1, a]
end
end MP

set_option Elab.async false
set_option linter.all false
set_option maxRecDepth 100000
set_option maxHeartbeats 1000000
namespace MP
open PySem PySem.Spec PyProof.Rows L2
/-- a drawn number lies in its range -/
theorem drawn_ok (ns : List Int) (h63 : ns.length ≤ 63) (k many : Int) (hk : 0 ≤ k) (hk2 : k < 1000000) (hm : 0 < many) :
    ∃ v, g__law_drawn [.list (ns.map PyData.int), .int k, .int many] = some (.ok (.int v)) ∧ 0 ≤ v ∧ v < many := by
  have hkk : -18446744073709551616 < k + 1 ∧ k + 1 < 18446744073709551616 := by omega
  have hmod : ∀ c : Int, 0 ≤ c % many ∧ c % many < many := fun c => ⟨Int.emod_nonneg c (by omega), Int.emod_lt_of_pos c hm⟩
  have m1 : ∀ c : Int, -18446744073709551616 < c % 2147483563 ∧ c % 2147483563 < 18446744073709551616 := fun c => by omega
  have m2 : ∀ c : Int, -18446744073709551616 < c % 2147483399 ∧ c % 2147483399 < 18446744073709551616 := fun c => by omega
  unfold g__law_drawn mkG runD
  simp only [b__law_drawn, start0]
  cases ns with
  | nil => simp [hkk, m1, m2, hm, hmod]
  | cons n ns =>
    obtain ⟨L, hL⟩ : ∃ L : List MP.D, L = (n :: ns).map PyData.int := ⟨_, rfl⟩
    rw [← hL]
    have hlenN : L.length = ns.length + 1 := by rw [hL]; simp
    have hposN : 0 < L.length := by omega
    have hbig : (L.length : Int) < 18446744073709551616 := by simp at h63; omega
    have hpos : (0 : Int) < L.length := by omega
    obtain ⟨hi, hat⟩ := atI_get (xs := L) (i := k % L.length) (Int.emod_nonneg _ (by omega)) (Int.emod_lt_of_pos _ hpos)
    have hLe : ∀ d ∈ L, ∃ i : Int, d = .int i := fun d hd => by
      rw [hL] at hd
      obtain ⟨i, _, e⟩ := List.mem_map.mp hd
      exact ⟨i, e.symm⟩
    obtain ⟨c, hc⟩ := hLe _ (List.getElem_mem hi)
    rw [hc] at hat
    have hne : PyData.eqvAll L [] = false := by rw [hL]; simp
    have hall : L.all (dep 7) = true := by rw [hL]; simp
    have hd0 : 0 ≤ k / L.length := Int.ediv_nonneg hk (by omega)
    by_cases h1 : 1000000000000000000 ≤ c
    · by_cases h2 : k / L.length < 60
      · simp [hne, hall, hat, hposN, hbig, h1, h2]
        obtain ⟨m', w1, ⟨r', t', rfl⟩, w2⟩ := while_inv (fc := eAnd (eOp2 gGt (eVar 5) (eC (PyData.int 0))) (eOp2 gGt (eVar 4) (eC (PyData.int 0))))
          (fb := sSeq (sAsg 5 (eOp2 gFdiv (eVar 5) (eC (PyData.int 1000000)))) (sSeq (sAsg 4 (eOp2 gSub (eVar 4) (eC (PyData.int 1)))) sSkip))
          (fun m => ∃ r t : Int, m = [.dat (.list L), .dat (.int k), .dat (.int many), .dat (.int c), .dat (.int t), .dat (.int r)])
          (intAt 4) 1000000000000 [.dat (.list L), .dat (.int k), .dat (.int many), .dat (.int c), .dat (.int (k / L.length)), .dat (.int (c / 1000000000000000000))]
          ⟨_, _, rfl⟩ (by simp [intAt]; omega) (by
            rintro m ⟨r, t, rfl⟩
            by_cases a1 : 0 < r
            · by_cases a2 : 0 < t
              · right
                refine ⟨by simp [a1, a2], [.dat (.list L), .dat (.int k), .dat (.int many), .dat (.int c), .dat (.int (t - 1)), .dat (.int (r / 1000000))], by simp, ⟨_, _, rfl⟩, by simp [intAt]; omega⟩
              · left; simp [a1, a2]
            · left; simp [a1])
        rw [w1]
        by_cases a1 : 0 < r'
        · simp [a1, hm, hmod]
        · simp [a1, hposN, hbig, hkk, m1, m2, hm, hmod]
      · simp [hne, hall, hat, hposN, hbig, h1, h2, hkk, m1, m2, hm, hmod]
    · simp [hne, hall, hat, hposN, hbig, h1, hkk, m1, m2, hm, hmod]
theorem mem_irange {lo : Int} {n : Nat} {d : MP.D} (h : d ∈ irange lo n) : ∃ k : Int, d = .int k ∧ lo ≤ k ∧ k < lo + n := by
  unfold irange at h
  obtain ⟨k, hk, rfl⟩ := List.mem_map.mp h
  have := List.mem_range.mp hk
  exact ⟨_, rfl, by omega, by omega⟩
@[simp] theorem irange_length {lo : Int} {n : Nat} : (irange lo n).length = n := by simp [irange]
theorem usrt_ne {l : List Int} (h : l ≠ []) : usrt l ≠ [] := fun e => by
  cases l with
  | nil => exact h rfl
  | cons x l =>
    have := (mem_usrt x (x :: l)).mpr List.mem_cons_self
    rw [e] at this
    cases this
theorem uins_len (x : Int) : ∀ l : List Int, (uins x l).length ≤ l.length + 1
  | [] => by simp [uins]
  | y :: l => by
    unfold uins
    have := uins_len x l
    split
    · simp
    · split
      · simp
      · simp; omega
theorem usrt_len : ∀ l : List Int, (usrt l).length ≤ l.length
  | [] => by simp [usrt]
  | x :: l => by
    have h1 := uins_len x (usrt l)
    have h2 := usrt_len l
    show (uins x (usrt l)).length ≤ (x :: l).length
    simp
    omega
theorem teeth_usrt {l : List Int} {most least greatest : Int} (h1 : l ≠ []) (h2 : (l.length : Int) ≤ most) (h3 : ∀ t ∈ l, least ≤ t ∧ t ≤ greatest) : Teeth (usrt l) most least greatest where
  l1 := by
    have := usrt_ne h1
    cases e : usrt l with
    | nil => exact absurd e this
    | cons x l => simp
  l2 := by have := usrt_len l; omega
  b := fun t ht => h3 t ((mem_usrt t l).mp ht)
  a := usrt_sorted l
theorem usortD {l : List Int} (h : l.length < 64) : bUSort [.list (l.map PyData.int)] = some (.list ((usrt l).map PyData.int)) := by
  show ((intsD (l.map PyData.int)).bind fun ns => if ns.length < 64 then some (PyData.list ((usrt ns).map PyData.int)) else none) = _
  rw [intsD_map]
  simp [h]
/-- a chosen one of eight -/
theorem eight {a b c d e f g h : Int} {v : Int} (h0 : 0 ≤ v) (h1 : v < 8) : ∃ r, atI [PyData.int a, .int b, .int c, .int d, .int e, .int f, .int g, .int h] v = some (.int r) ∧ (r = a ∨ r = b ∨ r = c ∨ r = d ∨ r = e ∨ r = f ∨ r = g ∨ r = h) := by
  have : v = 0 ∨ v = 1 ∨ v = 2 ∨ v = 3 ∨ v = 4 ∨ v = 5 ∨ v = 6 ∨ v = 7 := by omega
  rcases this with rfl | rfl | rfl | rfl | rfl | rfl | rfl | rfl <;> exact ⟨_, rfl, by simp⟩
theorem law_bike_ok (ns : List Int) (h63 : ns.length ≤ 63) (k : Int) (hk : 0 ≤ k) (hk2 : k < 1000) :
    ∃ rs cs, Bike rs cs ∧ cs.length ≤ 5 ∧ g__law_bike [.list (ns.map PyData.int), .int k] = some (.ok (bikeD rs cs)) := by
  obtain ⟨v1, d1, d1a, d1b⟩ := drawn_ok ns h63 k 3 hk (by omega) (by omega)
  obtain ⟨v2, d2, d2a, d2b⟩ := drawn_ok ns h63 (k + 1) 5 (by omega) (by omega) (by omega)
  have r1 : (-1000000 : Int) ≤ 1 + v1 ∧ 1 + v1 ≤ 1000000 := by omega
  have r2 : (-1000000 : Int) ≤ 1 + v2 ∧ 1 + v2 ≤ 1000000 := by omega
  unfold g__law_bike mkG runD
  simp only [b__law_bike, start0]
  simp [d1, r1]
  generalize hL : ns.map PyData.int = L at *
  have line_big : ∀ n : Nat, n < 1000 → n < line := fun n hn => by show n < 100000; omega
  generalize hF : forGo _ _ _ _ = o
  obtain ⟨m1, rfl, rs, x4, x5, rfl, hrl, hrb⟩ := for_of hF
    (fun done m => ∃ rs x4 x5, m = [.dat (.list L), .dat (.int k), .own (rs.map PyData.int), .own [], x4, x5] ∧ rs.length = done.length ∧ ∀ r ∈ rs, (10 : Int) ≤ r ∧ r ≤ 60) ⟨[], .un, .un, by simp, rfl, by simp⟩ (by
      rintro done d rest m' hd ⟨rs, x4, x5, rfl, hrl, hrb⟩
      have hlen := mid_len hd
      obtain ⟨q, rfl, q0, q1⟩ := mem_irange (mid_mem hd)
      obtain ⟨v3, d3, d3a, d3b⟩ := drawn_ok ns h63 (k + 2 + q) 50 (by omega) (by omega) (by omega)
      obtain ⟨v4, d4, d4a, d4b⟩ := drawn_ok ns h63 (k + 5 + q) 8 (by omega) (by omega) (by omega)
      rw [hL] at d3 d4
      obtain ⟨r, hr, hrr⟩ := eight (a := 20) (b := 24) (c := 30) (d := 36) (e := 40) (f := 42) (g := 48) (h := 11 + v3) d4a d4b
      have hll : rs.length < line := line_big _ (by rw [irange_length] at hlen; omega)
      refine ⟨_, [.dat (.list L), .dat (.int k), .own ((rs ++ [r]).map PyData.int), .own [], .dat (.int q), .dat (.list [.int 20, .int 24, .int 30, .int 36, .int 40, .int 42, .int 48, .int (11 + v3)])], rfl, .inl ?_, rs ++ [r], _, _, rfl, by simp [hrl], fun t ht => ?_⟩
      · simp [d3, d4, hr, hll]
      · rcases List.mem_append.mp ht with ht | ht
        · exact hrb t ht
        · have := List.mem_singleton.mp ht
          omega)
  simp [d2, r2]
  generalize hG : forGo _ _ _ _ = o
  obtain ⟨m2, rfl, cs, y4, y5, rfl, hcl, hcb⟩ := for_of hG
    (fun done m => ∃ cs y4 y5, m = [.dat (.list L), .dat (.int k), .own (rs.map PyData.int), .own (cs.map PyData.int), y4, y5] ∧ cs.length = done.length ∧ ∀ r ∈ cs, (8 : Int) ≤ r ∧ r ≤ 50) ⟨[], _, _, by simp; exact ⟨rfl, rfl⟩, rfl, by simp⟩ (by
      rintro done d rest m' hd ⟨cs, y4, y5, rfl, hcl, hcb⟩
      have hlen := mid_len hd
      obtain ⟨q, rfl, q0, q1⟩ := mem_irange (mid_mem hd)
      obtain ⟨v3, d3, d3a, d3b⟩ := drawn_ok ns h63 (k + 8 + q) 43 (by omega) (by omega) (by omega)
      obtain ⟨v4, d4, d4a, d4b⟩ := drawn_ok ns h63 (k + 14 + q) 8 (by omega) (by omega) (by omega)
      rw [hL] at d3 d4
      obtain ⟨r, hr, hrr⟩ := eight (a := 10) (b := 12) (c := 15) (d := 18) (e := 20) (f := 24) (g := 30) (h := 8 + v3) d4a d4b
      have hll : cs.length < line := line_big _ (by rw [irange_length] at hlen; omega)
      refine ⟨_, [.dat (.list L), .dat (.int k), .own (rs.map PyData.int), .own ((cs ++ [r]).map PyData.int), .dat (.int q), .dat (.list [.int 10, .int 12, .int 15, .int 18, .int 20, .int 24, .int 30, .int (8 + v3)])], rfl, .inl ?_, cs ++ [r], _, _, rfl, by simp [hcl], fun t ht => ?_⟩
      · simp [d3, d4, hr, hll]
      · rcases List.mem_append.mp ht with ht | ht
        · exact hcb t ht
        · have := List.mem_singleton.mp ht
          omega)
  rw [irange_length] at hrl hcl
  refine ⟨usrt rs, usrt cs, ⟨teeth_usrt ?_ (by omega) hrb, teeth_usrt ?_ (by omega) hcb⟩, ?_, ?_⟩
  · intro e; rw [e] at hrl; simp at hrl; omega
  · intro e; rw [e] at hcl; simp at hcl; omega
  · have := usrt_len cs; omega
  · simp [usortD (show rs.length < 64 by omega), usortD (show cs.length < 64 by omega), bikeD, teethD]
end MP

set_option Elab.async false
set_option linter.all false
set_option maxRecDepth 100000
set_option maxHeartbeats 1000000
namespace MP
open PySem PySem.Spec PyProof.Rows L2
section
variable {rs cs : List Int} {i j : Int}
theorem irange_at {lo : Int} {n : Nat} {done rest : List MP.D} {d : MP.D} (h : irange lo n = done ++ d :: rest) : d = .int (lo + done.length) ∧ done.length < n := by
  have hl := mid_len h
  rw [irange_length] at hl
  have e : (irange lo n)[done.length]? = some d := by rw [h]; simp
  unfold irange at e
  rw [List.getElem?_map, List.getElem?_range hl] at e
  exact ⟨(Option.some.inj e).symm, hl⟩
theorem range_flat (n : Nat) (f : Nat → List MP.D) : (List.range (n + 1)).flatMap f = (List.range n).flatMap f ++ f n := by
  rw [List.range_succ, List.flatMap_append]
  simp
theorem gears_succ (n k : Nat) : gearsOf (n + 1) k = gearsOf n k ++ (List.range k).map fun j : Nat => gearD n j := range_flat n _
theorem gears_len (n k : Nat) : (gearsOf n k).length = n * k := by
  induction n with
  | zero => simp [gearsOf]
  | succ n ih =>
    rw [gears_succ, List.length_append, ih, List.length_map, List.length_range, Nat.succ_mul]
theorem law_gears_ok (hr : rs.length ≤ 10) (hc : cs.length ≤ 10) : g__law_gears [bikeD rs cs] = some (.ok (.list (gearsOf rs.length cs.length))) := by
  have a1 : (-1000000 : Int) ≤ rs.length ∧ (rs.length : Int) ≤ 1000000 := by omega
  have a2 : (-1000000 : Int) ≤ cs.length ∧ (cs.length : Int) ≤ 1000000 := by omega
  have a3 : cs.length ≤ line := by show cs.length ≤ 100000; omega
  unfold g__law_gears mkG runD
  simp only [b__law_gears, start0]
  simp [bikeD, teethD, a1]
  generalize hF : forGo _ _ _ _ = o
  obtain ⟨m1, rfl, x2, rfl⟩ := for_of hF (fun done m => ∃ x2, m = [.dat (bikeD rs cs), .dat (.list (gearsOf done.length cs.length)), x2, .un]) ⟨_, rfl⟩ (by
    rintro done d rest m' hd ⟨x2, rfl⟩
    obtain ⟨rfl, hl⟩ := irange_at hd
    have a4 : (gearsOf done.length cs.length).length + cs.length ≤ line := by
      rw [gears_len]
      have : done.length * cs.length ≤ 10 * 10 := Nat.mul_le_mul (by omega) hc
      show _ ≤ 100000
      omega
    refine ⟨_, [.dat (bikeD rs cs), .dat (.list (gearsOf (done.length + 1) cs.length)), .dat (.int done.length), .un], rfl, .inl ?_, _, by simp; rfl⟩
    simp [bikeD, teethD, a2, a3, irange0]
    rw [comp_all (fun e => .tuple [.int done.length, e]) _ (by
      intro e he
      exact ⟨_, rfl, by simp⟩)]
    simp [a4, gears_succ, gearD, Function.comp_def])
  simp
@[simp] theorem even_links_ok {t : Int} (h : -1000000 < t ∧ t < 1000000) : g_even_links [.int t] = some (.ok (.int ((t + 3) / 4 * 2))) := by
  have a : -18446744073709551616 < (t + 3) / 4 ∧ (t + 3) / 4 < 18446744073709551616 := by omega
  simp [g_even_links, mkG, runD, b_even_links, start0, a]
/-! ### chains -/
theorem check_stay_ok {s : Int} (h : 20 ≤ s ∧ s ≤ 60) : g_check_stay [.int s] = some (.ok .none) := by
  simp [g_check_stay, mkG, runD, b_check_stay, start0, h.1, h.2]
theorem check_links_ok {s : Int} (h : 2 ≤ s ∧ s ≤ 200) (he : s % 2 = 0) : g_check_links [.int s] = some (.ok .none) := by
  simp [g_check_links, mkG, runD, b_check_links, start0, h.1, h.2, he]
theorem Bike.gear (h : Bike rs cs) (g : Gear rs cs i j) : (10 ≤ nth rs i ∧ nth rs i ≤ 60) ∧ 8 ≤ nth cs j ∧ nth cs j ≤ 50 :=
  ⟨h.r.b _ (nth_ok g.i0 g.i1).2, h.c.b _ (nth_ok g.j0 g.j1).2⟩
theorem links_for_ok {s : Int} (h : Bike rs cs) (g : Gear rs cs i j) (hs : 20 ≤ s ∧ s ≤ 60) : g_links_for [bikeD rs cs, gearD i j, .int s] = some (.ok (.int ((4 * s + nth rs i + nth cs j + 3) / 4 * 2))) := by
  have b := h.gear g
  simp [g_links_for, mkG, runD, b_links_for, start0, check_bike_ok h, check_gear_ok g, check_stay_ok hs, twice_needed_ok g (s := s) (by omega), even_links_ok (t := 4 * s + nth rs i + nth cs j) (by omega)]
theorem last_gear (h : Bike rs cs) : Gear rs cs ((rs.length : Int) - 1) ((cs.length : Int) - 1) := by
  have := h.r.l1; have := h.c.l1
  exact ⟨by omega, by omega, by omega, by omega⟩
theorem chain_for_ok {s : Int} (h : Bike rs cs) (hs : 20 ≤ s ∧ s ≤ 60) : g_chain_for [bikeD rs cs, .int s] = some (.ok (.int ((4 * s + nth rs (rs.length - 1) + nth cs (cs.length - 1) + 3) / 4 * 2))) := by
  have g := last_gear h
  have b := h.gear g
  have e := twice_needed_ok g (s := s) (by omega)
  simp only [bikeD, gearD, teethD] at e
  have e2 := check_bike_ok h
  simp only [bikeD, teethD] at e2
  simp [g_chain_for, mkG, runD, b_chain_for, start0, bikeD, teethD, e2, check_stay_ok hs, e, even_links_ok (t := 4 * s + nth rs (rs.length - 1) + nth cs (cs.length - 1)) (by omega)]
theorem slack_ok {s l : Int} (h : Bike rs cs) (g : Gear rs cs i j) (hs : 20 ≤ s ∧ s ≤ 60) (hl : 2 ≤ l ∧ l ≤ 200) (he : l % 2 = 0) : g_slack [bikeD rs cs, gearD i j, .int s, .int l] = some (.ok (.int (2 * l - (4 * s + nth rs i + nth cs j)))) := by
  simp [g_slack, mkG, runD, b_slack, start0, check_bike_ok h, check_gear_ok g, check_stay_ok hs, check_links_ok hl he, twice_needed_ok g (s := s) (by omega)]
theorem gear_nat {a b : Nat} (ha : a < rs.length) (hb : b < cs.length) : Gear rs cs a b := ⟨by omega, by omega, by omega, by omega⟩
/-- how much too long -/
def over (rs cs : List Int) (s l : Int) : MP.D → Int
  | .tuple [.int i, .int j] => 2 * l - (4 * s + nth rs i + nth cs j)
  | _ => -1
theorem over_gear {s l : Int} : over rs cs s l (gearD i j) = 2 * l - (4 * s + nth rs i + nth cs j) := rfl
theorem Bike.small (h : Bike rs cs) : rs.length ≤ 3 ∧ cs.length ≤ 8 := by
  have := h.r.l2; have := h.c.l2
  omega
theorem fitting_ok {s l q : Int} (h : Bike rs cs) (hs : 20 ≤ s ∧ s ≤ 60) (hl : 2 ≤ l ∧ l ≤ 200) (he : l % 2 = 0) (hq : 0 ≤ q ∧ q ≤ 100) :
    g_fitting [bikeD rs cs, .int s, .int l, .int q] = some (.ok (.list ((gearsOf rs.length cs.length).filter fun d => decide (0 ≤ over rs cs s l d) && decide (over rs cs s l d ≤ q)))) := by
  obtain ⟨s1, s2⟩ := h.small
  have hn : (gearsOf rs.length cs.length).length ≤ line := by
    rw [gears_len]
    have : rs.length * cs.length ≤ 3 * 8 := Nat.mul_le_mul s1 s2
    show _ ≤ 100000
    omega
  unfold g_fitting mkG runD
  simp only [b_fitting, start0]
  simp [check_bike_ok h, check_stay_ok hs, check_links_ok hl he, hq.1, hq.2, all_gears_ok (rs := rs) (cs := cs) (by omega) (by omega), hn]
  rw [comp_map (fun d => decide (0 ≤ over rs cs s l d) && decide (over rs cs s l d ≤ q)) (fun d => d) _ (by
    intro d hd
    obtain ⟨a, b, ha, hb, rfl⟩ := mem_gears.mp hd
    have g := gear_nat ha hb
    refine ⟨_, rfl, ?_, fun _ => ?_⟩
    · by_cases h0 : 4 * s + nth rs a + nth cs b ≤ 2 * l
      · simp [twice_needed_ok g (s := s) (by omega), over_gear, h0]
        rfl
      · simp [twice_needed_ok g (s := s) (by omega), over_gear, h0]
    · simp)]
  simp
end
end MP

set_option Elab.async false
set_option linter.all false
set_option maxRecDepth 100000
set_option maxHeartbeats 1000000
namespace MP
open PySem PySem.Spec PyProof.Rows L2
/-! ### what is no bicycle, no gear -/
theorem is_bike_not_tuple {d : MP.D} (h : gIsi "tuple" d = some (.bool false)) : g_is_bike [d] = some (.ok (.bool false)) := by
  simp [g_is_bike, mkG, runD, b_is_bike, start0, h]
theorem is_bike_len {xs : List MP.D} (h : xs.length ≠ 2) : g_is_bike [.tuple xs] = some (.ok (.bool false)) := by
  have h1 : ((xs.length : Int) == 2) = false := by simp; omega
  simp [g_is_bike, mkG, runD, b_is_bike, start0, h1]
theorem is_bike_rings {a b : MP.D} (h : g_are_rings [a] = some (.ok (.bool false))) : g_is_bike [.tuple [a, b]] = some (.ok (.bool false)) := by
  simp [g_is_bike, mkG, runD, b_is_bike, start0, h]
theorem is_bike_cogs {a b : MP.D} (ha : g_are_rings [a] = some (.ok (.bool true))) (h : g_are_cogs [b] = some (.ok (.bool false))) : g_is_bike [.tuple [a, b]] = some (.ok (.bool false)) := by
  simp [g_is_bike, mkG, runD, b_is_bike, start0, ha, h]
@[simp] theorem all_one {b : Bool} : bAll [.list [.bool b]] = some (.bool b) := by cases b <;> rfl
@[simp] theorem all_two {a b : Bool} : bAll [.list [.bool a, .bool b]] = some (.bool (a && b)) := by cases a <;> cases b <;> rfl
@[simp] theorem all_zero : bAll [.list []] = some (.bool true) := rfl
theorem rings30 : g_are_rings [.tuple [.int 30]] = some (.ok (.bool true)) := are_rings_ok (rs := [30]) ⟨by decide, by decide, by decide, by decide⟩
@[simp] theorem comp_nil {t : Tg} {fc fl : E} {m : En} : compGo t fc fl m [] = some [] := rfl
@[simp] theorem pairs_nil {ys : List MP.D} : pairs [] ys = [] := rfl
@[simp] theorem pairs_nil2 {xs : List MP.D} : pairs xs [] = [] := by simp [pairs]
@[simp] theorem pairs_cons {x y : MP.D} {xs ys : List MP.D} : pairs (x :: xs) (y :: ys) = .tuple [x, y] :: pairs xs ys := rfl
def consK (y : MP.D) : Option (List MP.D) → Option (List MP.D)
  | some ys => some (y :: ys)
  | none => none
def comp4 (t : Tg) (fc fl : E) (m : En) (ds : List MP.D) : Option Res → Option (List MP.D)
  | some (.ok y) => consK y (compGo t fc fl m ds)
  | _ => none
def comp3 (t : Tg) (fc fl : E) (m m1 : En) (ds : List MP.D) : Option Res → Option (List MP.D)
  | some (.ok (.bool true)) => comp4 t fc fl m ds (fl m1)
  | some (.ok (.bool false)) => compGo t fc fl m ds
  | _ => none
def comp1 (t : Tg) (fc fl : E) (m : En) (ds : List MP.D) : Option En → Option (List MP.D)
  | some m1 => comp3 t fc fl m m1 ds (fc m1)
  | none => none
@[simp] theorem comp_cons {t : Tg} {fc fl : E} {m : En} {d : MP.D} {ds : List MP.D} : compGo t fc fl m (d :: ds) = comp1 t fc fl m ds (bindT t d m) := by
  unfold comp1
  rw [compGo]
  cases bindT t d m with
  | none => rfl
  | some m1 =>
    unfold comp3
    dsimp only
    cases fc m1 with
    | none => rfl
    | some z => cases z with
      | exc c => rfl
      | ok d => cases d with
        | bool b =>
          cases b
          · rfl
          · unfold comp4
            dsimp only
            cases fl m1 with
            | none => rfl
            | some z => cases z with
              | exc c => rfl
              | ok d => unfold consK; rfl
        | _ => rfl
@[simp] theorem k_comp1 {t : Tg} {fc fl : E} {m m1 : En} {ds : List MP.D} : comp1 t fc fl m ds (some m1) = comp3 t fc fl m m1 ds (fc m1) := rfl
@[simp] theorem k_comp3t {t : Tg} {fc fl : E} {m m1 : En} {ds : List MP.D} : comp3 t fc fl m m1 ds (some (.ok (.bool true))) = comp4 t fc fl m ds (fl m1) := rfl
@[simp] theorem k_comp3f {t : Tg} {fc fl : E} {m m1 : En} {ds : List MP.D} : comp3 t fc fl m m1 ds (some (.ok (.bool false))) = compGo t fc fl m ds := rfl
@[simp] theorem k_comp4 {t : Tg} {fc fl : E} {m : En} {y : MP.D} {ds : List MP.D} : comp4 t fc fl m ds (some (.ok y)) = consK y (compGo t fc fl m ds) := rfl
@[simp] theorem k_cons {y : MP.D} {ys : List MP.D} : consK y (some ys) = some (y :: ys) := rfl
theorem teeth_empty {a b c : Int} : g_are_teeth [.tuple [], .int a, .int b, .int c] = some (.ok (.bool false)) := by
  simp [g_are_teeth, mkG, runD, b_are_teeth, start0]
theorem teeth_one {d : MP.D} {a b c : Int} (ha : 1 ≤ a) (h : g_is_int [d, .int b, .int c] = some (.ok (.bool false))) : g_are_teeth [.tuple [d], .int a, .int b, .int c] = some (.ok (.bool false)) := by
  simp [g_are_teeth, mkG, runD, b_are_teeth, start0, ha, h, line_eq]
theorem teeth_two {d e : MP.D} {a b c : Int} (ha : 2 ≤ a) (hd : g_is_int [d, .int b, .int c] = some (.ok (.bool true))) (h : g_is_int [e, .int b, .int c] = some (.ok (.bool false))) : g_are_teeth [.tuple [d, e], .int a, .int b, .int c] = some (.ok (.bool false)) := by
  simp [g_are_teeth, mkG, runD, b_are_teeth, start0, ha, hd, h, line_eq]
theorem teeth_down {d e : Int} {a b c : Int} (ha : 2 ≤ a) (hd : b ≤ d ∧ d ≤ c) (he : b ≤ e ∧ e ≤ c) (h : e ≤ d) : g_are_teeth [.tuple [.int d, .int e], .int a, .int b, .int c] = some (.ok (.bool false)) := by
  have h1 : ¬ d < e := by omega
  simp [g_are_teeth, mkG, runD, b_are_teeth, start0, ha, hd, he, cut_one, h1, line_eq]
theorem rings_of {d : MP.D} {b : Bool} (h : g_are_teeth [d, .int 3, .int 10, .int 60] = some (.ok (.bool b))) : g_are_rings [d] = some (.ok (.bool b)) := by
  simp [g_are_rings, mkG, runD, b_are_rings, start0, h]
theorem cogs_of {d : MP.D} {b : Bool} (h : g_are_teeth [d, .int 8, .int 8, .int 50] = some (.ok (.bool b))) : g_are_cogs [d] = some (.ok (.bool b)) := by
  simp [g_are_cogs, mkG, runD, b_are_cogs, start0, h]
theorem badbike_ok (ns : List Int) (h63 : ns.length ≤ 63) (k : Int) (hk : 0 ≤ k) (hk2 : k < 1000) : ∃ d, g__law_badbike [.list (ns.map PyData.int), .int k] = some (.ok d) ∧ g_is_bike [d] = some (.ok (.bool false)) := by
  obtain ⟨v, d1, d1a, d1b⟩ := drawn_ok ns h63 k 14 hk (by omega) (by omega)
  have hv : v = 0 ∨ v = 1 ∨ v = 2 ∨ v = 3 ∨ v = 4 ∨ v = 5 ∨ v = 6 ∨ v = 7 ∨ v = 8 ∨ v = 9 ∨ v = 10 ∨ v = 11 ∨ v = 12 ∨ v = 13 := by omega
  unfold g__law_badbike mkG runD
  simp only [b__law_badbike, start0]
  simp [d1, line_eq]
  rcases hv with rfl | rfl | rfl | rfl | rfl | rfl | rfl | rfl | rfl | rfl | rfl | rfl | rfl | rfl
  · exact ⟨_, rfl, is_bike_not_tuple (by simp)⟩
  · exact ⟨_, rfl, is_bike_len (by decide)⟩
  · exact ⟨_, rfl, is_bike_len (by decide)⟩
  · exact ⟨_, rfl, is_bike_rings (rings_of teeth_empty)⟩
  · exact ⟨_, rfl, is_bike_cogs rings30 (cogs_of teeth_empty)⟩
  · exact ⟨_, rfl, is_bike_rings (rings_of (teeth_down (by decide) (by decide) (by decide) (by decide)))⟩
  · exact ⟨_, rfl, is_bike_cogs rings30 (cogs_of (teeth_down (by decide) (by decide) (by decide) (by decide)))⟩
  · exact ⟨_, rfl, is_bike_rings (rings_of (teeth_one (by decide) (by simp)))⟩
  · exact ⟨_, rfl, is_bike_rings (rings_of (teeth_one (by decide) (by simp)))⟩
  · exact ⟨_, rfl, is_bike_cogs rings30 (cogs_of (teeth_one (by decide) (by simp)))⟩
  · exact ⟨_, rfl, is_bike_cogs rings30 (cogs_of (teeth_one (by decide) (by simp)))⟩
  · exact ⟨_, rfl, is_bike_not_tuple (by simp)⟩
  · exact ⟨_, rfl, is_bike_rings (rings_of (teeth_two (by decide) (by simp) (by simp)))⟩
  · exact ⟨_, rfl, is_bike_rings (rings_of (teeth_one (by decide) (by simp)))⟩
section
variable {rs cs : List Int}
theorem badgear_ok (hB : Bike rs cs) (ns : List Int) (h63 : ns.length ≤ 63) (k : Int) (hk : 0 ≤ k) (hk2 : k < 1000) : ∃ d, g__law_badgear [.list (ns.map PyData.int), .int k, bikeD rs cs] = some (.ok d) ∧ g_has_gear [bikeD rs cs, d] = some (.ok (.bool false)) := by
  obtain ⟨v, d1, d1a, d1b⟩ := drawn_ok ns h63 k 9 hk (by omega) (by omega)
  have hv : v = 0 ∨ v = 1 ∨ v = 2 ∨ v = 3 ∨ v = 4 ∨ v = 5 ∨ v = 6 ∨ v = 7 ∨ v = 8 := by omega
  unfold g__law_badgear mkG runD
  simp only [b__law_badgear, start0]
  simp [d1, line_eq, bikeD, teethD]
  have r1 : (1 : Int) ≤ rs.length := by have := hB.r.l1; omega
  have n1 : ∀ n : Nat, ¬ (n : Int) ≤ (n : Int) - 1 := fun n => by omega
  rcases hv with rfl | rfl | rfl | rfl | rfl | rfl | rfl | rfl | rfl
  all_goals refine ⟨_, rfl, ?_⟩
  all_goals simp [g_has_gear, mkG, runD, b_has_gear, start0, n1, r1]
end
end MP

set_option Elab.async false
set_option linter.all false
set_option maxRecDepth 100000
set_option maxHeartbeats 1000000
namespace MP
open PySem PySem.Spec PyProof.Rows L2
/-! ### ratios -/
theorem gcd_step {x y : Int} (hx : 0 ≤ x) (hy : 0 ≤ y) : Int.gcd y (x % y) = Int.gcd x y := by
  obtain ⟨p, rfl⟩ := Int.eq_ofNat_of_zero_le hx
  obtain ⟨q, rfl⟩ := Int.eq_ofNat_of_zero_le hy
  show Nat.gcd q (p % q) = Nat.gcd p q
  rw [Nat.gcd_comm q, Nat.gcd_comm p, ← Nat.gcd_rec]
theorem divisor_ok {a b : Int} (ha : 0 ≤ a) (hb : 0 ≤ b) (hb2 : b < 1000000000) : g_divisor [.int a, .int b] = some (.ok (.int (Int.gcd a b))) := by
  unfold g_divisor mkG runD
  simp only [b_divisor, start0]
  simp
  generalize hW : whileGo _ _ _ _ = o
  obtain ⟨m, rfl, ⟨x, y, rfl, hx, hy, hg⟩, hend⟩ := while_of hW (fun m => ∃ x y : Int, m = [.dat (.int x), .dat (.int y)] ∧ 0 ≤ x ∧ 0 ≤ y ∧ Int.gcd x y = Int.gcd a b) (intAt 1) ⟨a, b, rfl, ha, hb, rfl⟩ (by simp [intAt]; omega) (by
    rintro m ⟨x, y, rfl, hx, hy, hg⟩
    by_cases q : 0 < y
    · right
      refine ⟨by simp [q], [.dat (.int y), .dat (.int (x % y))], by simp [q], ⟨y, x % y, rfl, hy, Int.emod_nonneg _ (by omega), ?_⟩, ?_⟩
      · rw [← hg]
        exact gcd_step hx hy
      · have := Int.emod_lt_of_pos x q
        have := Int.emod_nonneg x (show y ≠ 0 by omega)
        simp [intAt]
        omega
    · left
      simp [q])
  simp at hend
  have e : y = 0 := by omega
  subst e
  rw [← hg]
  simp
  omega
/-- a / b in lowest terms -/
def redD (a b : Int) : MP.D := .tuple [.int (a / Int.gcd a b), .int (b / Int.gcd a b)]
theorem gcd_pos {a b : Int} (hb : 0 < b) : 0 < (Int.gcd a b : Int) := by
  have : 0 < Int.gcd a b := Nat.gcd_pos_of_pos_right _ (by omega)
  omega
theorem gcd_le {a b : Int} (hb : 0 < b) : (Int.gcd a b : Int) ≤ b := by
  have : Int.gcd a b ≤ b.natAbs := Nat.gcd_le_right _ (by omega)
  omega
theorem reduced_ok {a b : Int} (ha : 0 ≤ a) (hb : 0 < b) (hb2 : b < 1000000000) : g_reduced [.int a, .int b] = some (.ok (redD a b)) := by
  have h1 := gcd_pos (a := a) hb
  have h2 := gcd_le (a := a) hb
  have h3 : (Int.gcd a b : Int) < 18446744073709551616 := by omega
  have h1' : 0 < Int.gcd a b := by omega
  simp [g_reduced, mkG, runD, b_reduced, start0, divisor_ok ha (by omega : 0 ≤ b) hb2, h1', h3, redD]
section
variable {rs cs : List Int} {i j : Int}
theorem find_ratio_ok (h : Bike rs cs) (g : Gear rs cs i j) : g_find_ratio [bikeD rs cs, gearD i j] = some (.ok (redD (nth rs i) (nth cs j))) := by
  have b := h.gear g
  simp [g_find_ratio, mkG, runD, b_find_ratio, start0, idx_t g.i0 g.i1, idx_t g.j0 g.j1, reduced_ok (a := nth rs i) (b := nth cs j) (by omega) (by omega) (by omega)]
/-- the key of a / b -/
def keyI (a b : Int) : Int := a / Int.gcd a b * 10000000 / (b / Int.gcd a b)
theorem red_pos {a b : Int} (hb : 0 < b) : 0 < b / (Int.gcd a b : Int) := Int.ediv_pos_of_pos_of_dvd hb (by have := gcd_pos (a := a) hb; omega) (Int.gcd_dvd_right ..)
theorem value_key_ok {a b : Int} (ha : 0 < a ∧ a < 1000000) (hb : 0 < b ∧ b < 1000000) : g_value_key [redD a b] = some (.ok (.int (keyI a b))) := by
  have h0 := red_pos (a := a) hb.1
  have h1 := gcd_pos (a := a) hb.1
  have h2 : b / (Int.gcd a b : Int) < 18446744073709551616 := by
    have : b / (Int.gcd a b : Int) ≤ b := Int.ediv_le_self _ (by omega)
    omega
  simp [g_value_key, mkG, runD, b_value_key, start0, redD, keyI, h0, h2]
/-- what is sorted -/
def keyed (rs cs : List Int) : MP.D → MP.D
  | .tuple [.int i, .int j] => .tuple [.int (keyI (nth rs i) (nth cs j)), gearD i j]
  | d => d
theorem keyed_gear : keyed rs cs (gearD i j) = .tuple [.int (keyI (nth rs i) (nth cs j)), gearD i j] := rfl
def sndD : MP.D → MP.D
  | .tuple [_, d] => d
  | d => d
/-- the gears, by their ratio's key, then by themselves -/
def gearsUp (rs cs : List Int) : List MP.D := (sortD ((gearsOf rs.length cs.length).map (keyed rs cs))).map sndD
theorem okSort_keyed (h : Bike rs cs) : okSort ((gearsOf rs.length cs.length).map (keyed rs cs)) = true := by
  obtain ⟨s1, s2⟩ := h.small
  have hn : (gearsOf rs.length cs.length).length ≤ 24 := by
    rw [gears_len]
    exact Nat.mul_le_mul s1 s2
  have hall : ∀ d ∈ (gearsOf rs.length cs.length).map (keyed rs cs), ∃ k a b : Int, d = .tuple [.int k, .tuple [.int a, .int b]] := fun d hd => by
    obtain ⟨g, hg, rfl⟩ := List.mem_map.mp hd
    obtain ⟨a, b, _, _, rfl⟩ := mem_gears.mp hg
    exact ⟨_, _, _, rfl⟩
  unfold okSort
  simp only [Bool.and_eq_true, decide_eq_true_eq, Bool.or_eq_true, List.all_eq_true, alikeL]
  refine ⟨by rw [List.length_map]; show _ ≤ 100000; omega, fun d hd => ?_, fun d hd e he => ?_, .inl fun d hd => ?_⟩
  · obtain ⟨k, a, b, rfl⟩ := hall d hd
    simp
  · obtain ⟨k, a, b, rfl⟩ := hall d hd
    obtain ⟨k', a', b', rfl⟩ := hall e he
    simp [PySem.W.alike, PySem.W.alikeAll]
  · obtain ⟨k, a, b, rfl⟩ := hall d hd
    rfl
theorem sortD_perm (xs : List MP.D) : (sortD xs).Perm xs := List.mergeSort_perm _ _
theorem gearsUp_perm : (gearsUp rs cs).Perm (gearsOf rs.length cs.length) := by
  have h1 : (gearsUp rs cs).Perm (((gearsOf rs.length cs.length).map (keyed rs cs)).map sndD) := (sortD_perm _).map _
  have h2 : ((gearsOf rs.length cs.length).map (keyed rs cs)).map sndD = gearsOf rs.length cs.length := by
    rw [List.map_map]
    conv => rhs; rw [← List.map_id (gearsOf rs.length cs.length)]
    refine List.map_congr_left fun d hd => ?_
    obtain ⟨a, b, _, _, rfl⟩ := mem_gears.mp hd
    rfl
  rw [h2] at h1
  exact h1
@[simp] theorem o_sort {xs : List MP.D} : bSort [.list xs] = if okSort xs = true then some (.list (sortD xs)) else none := rfl
theorem find_gears_ok (h : Bike rs cs) : g_find_gears [bikeD rs cs] = some (.ok (.list (gearsUp rs cs))) := by
  obtain ⟨s1, s2⟩ := h.small
  have hn : (gearsOf rs.length cs.length).length ≤ line := by
    rw [gears_len]
    have : rs.length * cs.length ≤ 3 * 8 := Nat.mul_le_mul s1 s2
    show _ ≤ 100000
    omega
  have hs : (sortD ((gearsOf rs.length cs.length).map (keyed rs cs))).length ≤ line := by
    rw [(sortD_perm _).length_eq, List.length_map]
    exact hn
  unfold g_find_gears mkG runD
  simp only [b_find_gears, start0]
  simp [all_gears_ok (rs := rs) (cs := cs) (by omega) (by omega), hn]
  rw [comp_all (keyed rs cs) _ (by
    intro d hd
    obtain ⟨a, b, ha, hb, rfl⟩ := mem_gears.mp hd
    have g := gear_nat ha hb
    have bb := h.gear g
    exact ⟨_, rfl, by simp [find_ratio_ok h g, value_key_ok (a := nth rs a) (b := nth cs b) (by omega) (by omega), keyed_gear]⟩)]
  simp [okSort_keyed h, hs]
  rw [comp_all sndD _ (by
    intro d hd
    have hd' := (sortD_perm _).mem_iff.mp hd
    obtain ⟨g, hg, rfl⟩ := List.mem_map.mp hd'
    obtain ⟨a, b, _, _, rfl⟩ := mem_gears.mp hg
    exact ⟨_, rfl, by simp [keyed_gear, sndD]⟩)]
  simp [gearsUp]
theorem gears_ok (h : Bike rs cs) : g_gears [bikeD rs cs] = some (.ok (.list (gearsUp rs cs))) := by
  simp [g_gears, mkG, runD, b_gears, start0, check_bike_ok h, find_gears_ok h]
end
end MP

set_option Elab.async false
set_option linter.all false
set_option maxRecDepth 100000
set_option maxHeartbeats 1000000
namespace MP
open PySem PySem.Spec PyProof.Rows L2
section
variable {rs cs : List Int} {i j : Int}
theorem comp_none {t : Tg} {fc fl : E} {m : En} : ∀ ds : List MP.D, (∀ d ∈ ds, ∃ m1, bindT t d m = some m1 ∧ fc m1 = some (.ok (.bool false))) → compGo t fc fl m ds = some []
  | [], _ => rfl
  | d :: ds, h => by
    obtain ⟨m1, h1, h2⟩ := h d List.mem_cons_self
    rw [comp_cons, h1, k_comp1, h2, k_comp3f]
    exact comp_none ds fun e he => h e (List.mem_cons_of_mem _ he)
theorem tup_gear : PyData.tuple [.int i, .int j] = gearD i j := rfl
@[simp] theorem bind_bike {a b : Nat} {m : En} : bindT (.tp [a, b]) (bikeD rs cs) m = some ((m.set a (.dat (teethD rs))).set b (.dat (teethD cs))) := by simp [bikeD]
@[simp] theorem bind_gear {a b : Nat} {m : En} : bindT (.tp [a, b]) (gearD i j) m = some ((m.set a (.dat (.int i))).set b (.dat (.int j))) := by simp [gearD]
theorem idx_tm1 {ts : List Int} (h : 1 ≤ ts.length) : gIdx (teethD ts) (.int (-1)) = some (.int (nth ts (ts.length - 1))) := by
  show atI (ts.map PyData.int) (-1) = _
  have h1 : atI (ts.map PyData.int) (-1) = atI (ts.map PyData.int) ((ts.length : Int) - 1) := by
    unfold atI ixN
    rw [List.length_map, if_neg (by omega), if_pos (by omega), if_pos (by omega), if_pos (by omega)]
    congr 1
  rw [h1]
  exact nthD (by omega) (by omega)
@[simp] theorem small_gear {n : Nat} : dep (n + 1) (gearD i j) = true := by simp [gearD]
theorem eqv_gear : PyData.eqv (gearD i j) (gearD i j) = true := by simp [gearD]
theorem eqv_gearD {a b : Int} : PyData.eqv (gearD a b) (gearD i j) = (a == i && b == j) := by simp [gearD]
/-- a gear stands among the kept ones just if it is kept -/
theorem mem_kept {n k a b : Nat} {p : MP.D → Bool} (ha : a < n) (hb : b < k) : (((gearsOf n k).filter p).any fun z => PyData.eqv z (gearD a b)) = p (gearD a b) := by
  rw [Bool.eq_iff_iff, List.any_eq_true]
  constructor
  · rintro ⟨x, hx, he⟩
    obtain ⟨hx, hp⟩ := List.mem_filter.mp hx
    obtain ⟨c, d, _, _, rfl⟩ := mem_gears.mp hx
    rw [eqv_gearD] at he
    simp at he
    rw [he.1, he.2] at hp
    exact hp
  · intro hp
    exact ⟨_, List.mem_filter.mpr ⟨mem_gears.mpr ⟨a, b, ha, hb, rfl⟩, hp⟩, eqv_gear⟩
theorem eqv_gears {n k : Nat} {p : MP.D → Bool} : PyData.eqvAll ((gearsOf n k).filter p) ((gearsOf n k).filter p) = true := by
  refine eqvAll_refl fun x hx => ?_
  obtain ⟨a, b, _, _, rfl⟩ := mem_gears.mp (List.mem_filter.mp hx).1
  exact eqv_gear
theorem dep_gears {n k q : Nat} {p : MP.D → Bool} : ((gearsOf n k).filter p).all (dep (q + 1)) = true := by
  rw [List.all_eq_true]
  intro x hx
  obtain ⟨a, b, _, _, rfl⟩ := mem_gears.mp (List.mem_filter.mp hx).1
  simp
/-! ### gears in their own order -/
theorem le_gear {a b : Int} : PySem.W.dataLe false id (gearD a b) (gearD i j) = decide (a < i ∨ (a = i ∧ b ≤ j)) := by
  have h := PySem.W.dataLe_ii (β := Int × Int) (fun p => p.1) (fun p => p.2)
  exact congrFun (congrFun h (a, b)) (i, j)
theorem range_pair (n : Nat) : (List.range n).Pairwise (· < ·) := List.pairwise_lt_range
theorem gears_pair : ∀ n k : Nat, (gearsOf n k).Pairwise fun x y => PySem.W.dataLe false id x y = true
  | 0, k => by simp [gearsOf]
  | n + 1, k => by
    rw [gears_succ, List.pairwise_append]
    refine ⟨gears_pair n k, ?_, fun x hx y hy => ?_⟩
    · rw [List.pairwise_map]
      refine (range_pair k).imp fun {a b} hab => ?_
      rw [le_gear]
      simp
      omega
    · obtain ⟨a, b, ha, _, rfl⟩ := mem_gears.mp hx
      obtain ⟨c, _, rfl⟩ := List.mem_map.mp hy
      rw [le_gear]
      simp
      omega
theorem sort_kept {n k : Nat} {p : MP.D → Bool} : sortD ((gearsOf n k).filter p) = (gearsOf n k).filter p := List.mergeSort_of_pairwise ((gears_pair n k).filter _)
theorem okSort_kept {n k : Nat} {p : MP.D → Bool} (h : n * k ≤ 1000) : okSort ((gearsOf n k).filter p) = true := by
  have hall : ∀ d ∈ (gearsOf n k).filter p, ∃ a b : Int, d = .tuple [.int a, .int b] := fun d hd => by
    obtain ⟨a, b, _, _, rfl⟩ := mem_gears.mp (List.mem_filter.mp hd).1
    exact ⟨_, _, rfl⟩
  unfold okSort
  simp only [Bool.and_eq_true, decide_eq_true_eq, Bool.or_eq_true, List.all_eq_true, alikeL]
  refine ⟨?_, fun d hd => ?_, fun d hd e he => ?_, .inl fun d hd => ?_⟩
  · have := List.length_filter_le p (gearsOf n k)
    rw [gears_len] at this
    show _ ≤ 100000
    omega
  · obtain ⟨a, b, rfl⟩ := hall d hd
    simp
  · obtain ⟨a, b, rfl⟩ := hall d hd
    obtain ⟨a', b', rfl⟩ := hall e he
    simp [PySem.W.alike, PySem.W.alikeAll]
  · obtain ⟨a, b, rfl⟩ := hall d hd
    rfl
end
end MP

set_option Elab.async false
set_option linter.all false
set_option maxRecDepth 100000
set_option maxHeartbeats 1000000
namespace MP
open PySem PySem.Spec PyProof.Rows L2
/-! ### ratios, by cross products -/
theorem red_mul {a b : Int} (hb : 0 < b) : a / Int.gcd a b * Int.gcd a b = a ∧ b / Int.gcd a b * Int.gcd a b = b :=
  ⟨Int.ediv_mul_cancel (Int.gcd_dvd_left ..), Int.ediv_mul_cancel (Int.gcd_dvd_right ..)⟩
theorem red_cross {a b c d : Int} (hb : 0 < b) (hd : 0 < d) (h1 : a / Int.gcd a b = c / Int.gcd c d) (h2 : b / Int.gcd a b = d / Int.gcd c d) : a * d = c * b := by
  obtain ⟨a1, b1⟩ := red_mul (a := a) hb
  obtain ⟨c1, d1⟩ := red_mul (a := c) hd
  calc a * d = (a / Int.gcd a b * Int.gcd a b) * (d / Int.gcd c d * Int.gcd c d) := by rw [a1, d1]
    _ = (c / Int.gcd c d * Int.gcd c d) * (b / Int.gcd a b * Int.gcd a b) := by rw [h1, h2]; simp only [Int.mul_assoc, Int.mul_comm, Int.mul_left_comm]
    _ = c * b := by rw [b1, c1]
theorem nat_red {a b c d : Nat} (hb : 0 < b) (hd : 0 < d) (h : a * d = c * b) : a / Nat.gcd a b = c / Nat.gcd c d ∧ b / Nat.gcd a b = d / Nat.gcd c d := by
  have g1 : 0 < Nat.gcd a b := Nat.gcd_pos_of_pos_right _ hb
  have g2 : 0 < Nat.gcd c d := Nat.gcd_pos_of_pos_right _ hd
  obtain ⟨a', ha⟩ := Nat.gcd_dvd_left a b
  obtain ⟨b', hb'⟩ := Nat.gcd_dvd_right a b
  obtain ⟨c', hc⟩ := Nat.gcd_dvd_left c d
  obtain ⟨d', hd'⟩ := Nat.gcd_dvd_right c d
  have k1 : Nat.Coprime (a / Nat.gcd a b) (b / Nat.gcd a b) := Nat.coprime_div_gcd_div_gcd g1
  have k2 : Nat.Coprime (c / Nat.gcd c d) (d / Nat.gcd c d) := Nat.coprime_div_gcd_div_gcd g2
  have ea : a / Nat.gcd a b = a' := by
    conv => lhs; lhs; rw [ha]
    exact Nat.mul_div_cancel_left _ g1
  have eb : b / Nat.gcd a b = b' := by
    conv => lhs; lhs; rw [hb']
    exact Nat.mul_div_cancel_left _ g1
  have ec : c / Nat.gcd c d = c' := by
    conv => lhs; lhs; rw [hc]
    exact Nat.mul_div_cancel_left _ g2
  have ed : d / Nat.gcd c d = d' := by
    conv => lhs; lhs; rw [hd']
    exact Nat.mul_div_cancel_left _ g2
  rw [ea, eb] at k1
  rw [ec, ed] at k2
  rw [ea, eb, ec, ed]
  have hx : a' * d' = c' * b' := by
    have h2 : (Nat.gcd a b * Nat.gcd c d) * (a' * d') = (Nat.gcd a b * Nat.gcd c d) * (c' * b') := by
      calc (Nat.gcd a b * Nat.gcd c d) * (a' * d') = (Nat.gcd a b * a') * (Nat.gcd c d * d') := by simp only [Nat.mul_assoc, Nat.mul_comm, Nat.mul_left_comm]
        _ = a * d := by rw [← ha, ← hd']
        _ = c * b := h
        _ = (Nat.gcd c d * c') * (Nat.gcd a b * b') := by rw [← hc, ← hb']
        _ = _ := by simp only [Nat.mul_assoc, Nat.mul_comm, Nat.mul_left_comm]
    exact Nat.eq_of_mul_eq_mul_left (Nat.mul_pos g1 g2) h2
  have d1 : a' ∣ c' := by
    have : a' ∣ c' * b' := ⟨d', hx.symm⟩
    exact k1.dvd_of_dvd_mul_right this
  have d2 : c' ∣ a' := by
    have : c' ∣ a' * d' := ⟨b', hx⟩
    exact k2.dvd_of_dvd_mul_right this
  have e1 : a' = c' := Nat.dvd_antisymm d1 d2
  refine ⟨e1, ?_⟩
  have d3 : b' ∣ d' := by
    have : b' ∣ d' * a' := ⟨c', by rw [Nat.mul_comm d', hx, Nat.mul_comm]⟩
    exact k1.symm.dvd_of_dvd_mul_right this
  have d4 : d' ∣ b' := by
    have : d' ∣ b' * c' := ⟨a', by rw [Nat.mul_comm b', ← hx, Nat.mul_comm]⟩
    exact k2.symm.dvd_of_dvd_mul_right this
  exact Nat.dvd_antisymm d3 d4
theorem red_eq {a b c d : Int} (ha : 0 < a) (hb : 0 < b) (hc : 0 < c) (hd : 0 < d) : (redD a b = redD c d) ↔ a * d = c * b := by
  constructor
  · intro h
    unfold redD at h
    injection h with h
    injection h with h1 h2
    injection h1 with h1
    injection h2 with h2 _
    injection h2 with h2
    exact red_cross hb hd h1 h2
  · intro h
    obtain ⟨a, rfl⟩ := Int.eq_ofNat_of_zero_le (Int.le_of_lt ha)
    obtain ⟨b, rfl⟩ := Int.eq_ofNat_of_zero_le (Int.le_of_lt hb)
    obtain ⟨c, rfl⟩ := Int.eq_ofNat_of_zero_le (Int.le_of_lt hc)
    obtain ⟨d, rfl⟩ := Int.eq_ofNat_of_zero_le (Int.le_of_lt hd)
    have h' : a * d = c * b := by exact_mod_cast h
    obtain ⟨e1, e2⟩ := nat_red (by omega) (by omega) h'
    unfold redD
    show PyData.tuple [.int ((a : Int) / (Nat.gcd a b : Nat)), .int ((b : Int) / (Nat.gcd a b : Nat))] = PyData.tuple [.int ((c : Int) / (Nat.gcd c d : Nat)), .int ((d : Int) / (Nat.gcd c d : Nat))]
    rw [← Int.natCast_ediv, ← Int.natCast_ediv, ← Int.natCast_ediv, ← Int.natCast_ediv, e1, e2]
theorem eqv_pair {a b c d : Int} : PyData.eqv (.tuple [.int a, .int b]) (.tuple [.int c, .int d]) = true ↔ (PyData.tuple [.int a, .int b]) = .tuple [.int c, .int d] := by
  simp
theorem eqv_red {a b c d : Int} (ha : 0 < a) (hb : 0 < b) (hc : 0 < c) (hd : 0 < d) : PyData.eqv (redD a b) (redD c d) = decide (a * d = c * b) := by
  rw [Bool.eq_iff_iff, decide_eq_true_eq, ← red_eq ha hb hc hd]
  exact eqv_pair
theorem keyI_eq {a b : Int} (hb : 0 < b) : keyI a b = a * 10000000 / b := by
  have g := gcd_pos (a := a) hb
  obtain ⟨a1, b1⟩ := red_mul (a := a) hb
  unfold keyI
  rw [← Int.mul_ediv_mul_of_pos (a := (Int.gcd a b : Int)) _ _ g, Int.mul_comm _ (b / (Int.gcd a b : Int)), b1]
  congr 1
  rw [← Int.mul_assoc, Int.mul_comm (Int.gcd a b : Int), a1]
theorem key_lt {a b c d : Int} (hb : 0 < b ∧ b ≤ 50) (hd : 0 < d ∧ d ≤ 50) (h : a * d < c * b) : keyI a b < keyI c d := by
  rw [keyI_eq hb.1, keyI_eq hd.1]
  have x1 : a * 10000000 / b * b ≤ a * 10000000 := Int.ediv_mul_le _ (by omega)
  have hbd : b * d ≤ 2500 := by
    have := Int.mul_le_mul hb.2 hd.2 (by omega) (by omega)
    omega
  have : (a * 10000000 / b + 1) * d ≤ c * 10000000 := by
    have e : b * ((a * 10000000 / b + 1) * d) ≤ b * (c * 10000000) := by
      calc b * ((a * 10000000 / b + 1) * d) = (a * 10000000 / b * b) * d + b * d := by
            rw [Int.add_mul, Int.one_mul, Int.mul_add, ← Int.mul_assoc, Int.mul_comm b (a * 10000000 / b)]
        _ ≤ (a * 10000000) * d + b * d := by
            have := Int.mul_le_mul_of_nonneg_right x1 (Int.le_of_lt hd.1)
            omega
        _ = (a * d) * 10000000 + b * d := by rw [Int.mul_right_comm]
        _ ≤ (c * b) * 10000000 := by omega
        _ = b * (c * 10000000) := by rw [Int.mul_comm c b, Int.mul_assoc]
    exact Int.le_of_mul_le_mul_left e hb.1
  have := (Int.le_ediv_iff_mul_le hd.1).mpr this
  omega
theorem key_eq {a b c d : Int} (hb : 0 < b) (hd : 0 < d) (h : a * d = c * b) : keyI a b = keyI c d := by
  rw [keyI_eq hb, keyI_eq hd]
  have e1 : a * 10000000 / b = (d * (a * 10000000)) / (d * b) := (Int.mul_ediv_mul_of_pos _ _ hd).symm
  have e2 : c * 10000000 / d = (b * (c * 10000000)) / (b * d) := (Int.mul_ediv_mul_of_pos _ _ hb).symm
  rw [e1, e2, Int.mul_comm d b]
  congr 1
  rw [← Int.mul_assoc, ← Int.mul_assoc, Int.mul_comm d a, h, Int.mul_comm c b]
end MP

set_option Elab.async false
set_option linter.all false
set_option maxRecDepth 100000
set_option maxHeartbeats 1000000
namespace MP
open PySem PySem.Spec PyProof.Rows L2
theorem cross_le {a b c d e f : Int} (hb : 0 < b) (hd : 0 < d) (hf : 0 < f) (h1 : a * d ≤ c * b) (h2 : c * f ≤ e * d) : a * f ≤ e * b := by
  have : d * (a * f) ≤ d * (e * b) := by
    calc d * (a * f) = (a * d) * f := by rw [Int.mul_comm a d, Int.mul_assoc]
      _ ≤ (c * b) * f := Int.mul_le_mul_of_nonneg_right h1 (Int.le_of_lt hf)
      _ = (c * f) * b := Int.mul_right_comm ..
      _ ≤ (e * d) * b := Int.mul_le_mul_of_nonneg_right h2 (Int.le_of_lt hb)
      _ = d * (e * b) := by rw [Int.mul_comm e d, Int.mul_assoc]
  exact Int.le_of_mul_le_mul_left this hd
theorem cross_lt {a b c d e f : Int} (hb : 0 < b) (hd : 0 < d) (hf : 0 < f) (h1 : a * d ≤ c * b) (h2 : c * f < e * d) : a * f < e * b := by
  have : d * (a * f) < d * (e * b) := by
    calc d * (a * f) = (a * d) * f := by rw [Int.mul_comm a d, Int.mul_assoc]
      _ ≤ (c * b) * f := Int.mul_le_mul_of_nonneg_right h1 (Int.le_of_lt hf)
      _ = (c * f) * b := Int.mul_right_comm ..
      _ < (e * d) * b := Int.mul_lt_mul_of_pos_right h2 hb
      _ = d * (e * b) := by rw [Int.mul_comm e d, Int.mul_assoc]
  exact Int.lt_of_mul_lt_mul_left this (Int.le_of_lt hd)
theorem cross_lt' {a b c d e f : Int} (hb : 0 < b) (hd : 0 < d) (hf : 0 < f) (h1 : a * d < c * b) (h2 : c * f ≤ e * d) : a * f < e * b := by
  have : d * (a * f) < d * (e * b) := by
    calc d * (a * f) = (a * d) * f := by rw [Int.mul_comm a d, Int.mul_assoc]
      _ < (c * b) * f := Int.mul_lt_mul_of_pos_right h1 hf
      _ = (c * f) * b := Int.mul_right_comm ..
      _ ≤ (e * d) * b := Int.mul_le_mul_of_nonneg_right h2 (Int.le_of_lt hb)
      _ = d * (e * b) := by rw [Int.mul_comm e d, Int.mul_assoc]
  exact Int.lt_of_mul_lt_mul_left this (Int.le_of_lt hd)
/-! ### the ratios of gears -/
section
variable (rs cs : List Int)
def num : MP.D → Int
  | .tuple [.int i, .int _] => nth rs i
  | _ => 1
def den : MP.D → Int
  | .tuple [.int _, .int j] => nth cs j
  | _ => 1
def ratD (g : MP.D) : MP.D := redD (num rs g) (den cs g)
def rle (x y : MP.D) : Prop := num rs x * den cs y ≤ num rs y * den cs x
def rlt (x y : MP.D) : Prop := num rs x * den cs y < num rs y * den cs x
def rsm (x y : MP.D) : Prop := num rs x * den cs y = num rs y * den cs x
end
section
variable {rs cs : List Int}
theorem pos_of (h : Bike rs cs) {g : MP.D} (hg : g ∈ gearsOf rs.length cs.length) : (10 ≤ num rs g ∧ num rs g ≤ 60) ∧ 8 ≤ den cs g ∧ den cs g ≤ 50 := by
  obtain ⟨a, b, ha, hb, rfl⟩ := mem_gears.mp hg
  exact h.gear (gear_nat ha hb)
theorem ratio_of (h : Bike rs cs) {g : MP.D} (hg : g ∈ gearsOf rs.length cs.length) : g_find_ratio [bikeD rs cs, g] = some (.ok (ratD rs cs g)) := by
  obtain ⟨a, b, ha, hb, rfl⟩ := mem_gears.mp hg
  exact find_ratio_ok h (gear_nat ha hb)
theorem rat_eq (h : Bike rs cs) {x y : MP.D} (hx : x ∈ gearsOf rs.length cs.length) (hy : y ∈ gearsOf rs.length cs.length) : ratD rs cs x = ratD rs cs y ↔ rsm rs cs x y := by
  have p := pos_of h hx
  have q := pos_of h hy
  exact red_eq (by omega) (by omega) (by omega) (by omega)
theorem rat_eqv (h : Bike rs cs) {x y : MP.D} (hx : x ∈ gearsOf rs.length cs.length) (hy : y ∈ gearsOf rs.length cs.length) : PyData.eqv (ratD rs cs x) (ratD rs cs y) = true ↔ rsm rs cs x y := by
  have p := pos_of h hx
  have q := pos_of h hy
  unfold ratD
  rw [eqv_red (by omega) (by omega) (by omega) (by omega), decide_eq_true_eq]
  rfl
theorem rat_dep {g : MP.D} {n : Nat} : dep (n + 1) (ratD rs cs g) = true := by simp [ratD, redD]
/-- the sorted ones go up -/
theorem up_pair (h : Bike rs cs) : (gearsUp rs cs).Pairwise (rle rs cs) := by
  unfold gearsUp
  rw [List.pairwise_map]
  have hs : (sortD ((gearsOf rs.length cs.length).map (keyed rs cs))).Pairwise fun a b => PySem.W.dataLe false id a b = true := PySem.W.sort_pairwise (PySem.W.sortLe_total _ _ _) _
  refine hs.imp_of_mem fun {x y} hx hy hxy => ?_
  obtain ⟨g, hg, rfl⟩ := List.mem_map.mp ((sortD_perm _).mem_iff.mp hx)
  obtain ⟨k, hk, rfl⟩ := List.mem_map.mp ((sortD_perm _).mem_iff.mp hy)
  obtain ⟨a, b, ha, hb, rfl⟩ := mem_gears.mp hg
  obtain ⟨c, d, hc, hd, rfl⟩ := mem_gears.mp hk
  have p := pos_of h hg
  have q := pos_of h hk
  show nth rs a * nth cs d ≤ nth rs c * nth cs b
  refine Int.not_lt.mp fun hlt => ?_
  have hkey : keyI (nth rs c) (nth cs d) < keyI (nth rs a) (nth cs b) := key_lt ⟨by have := q.2.1; exact Int.lt_of_lt_of_le (by decide) this, q.2.2⟩ ⟨by have := p.2.1; exact Int.lt_of_lt_of_le (by decide) this, p.2.2⟩ hlt
  have e : PySem.W.dataLe false id (keyed rs cs (gearD a b)) (keyed rs cs (gearD c d)) = !PySem.W.dataLt (keyed rs cs (gearD c d)) (keyed rs cs (gearD a b)) := rfl
  rw [e, keyed_gear, keyed_gear, PySem.W.dataLt_pair (by simp [PySem.W.alike]) (by simp [PySem.W.alike, PySem.W.alikeAll, gearD])] at hxy
  have ne : PyData.eqv (.int (keyI (nth rs c) (nth cs d))) (.int (keyI (nth rs a) (nth cs b))) = false := by simp; omega
  rw [ne, if_neg (by decide), PySem.W.dataLt_int, decide_eq_true hkey] at hxy
  cases hxy
/-- one gear of each ratio, going up -/
structure Lad (rs cs : List Int) (l F : List MP.D) : Prop where
  up : F.Pairwise (rlt rs cs)
  all : ∀ g ∈ l, ∃ k ∈ F, rsm rs cs k g
  mem : ∀ k ∈ F, k ∈ l
theorem cut_last {xs : List MP.D} : cut xs (some (-1)) none = (match xs.getLast? with | some x => [x] | none => []) := by
  unfold cut
  cases h : xs.getLast? with
  | none =>
    have : xs = [] := List.getLast?_eq_none_iff.mp h
    subst this
    simp [HT.sIx]
  | some x =>
    obtain ⟨ys, rfl⟩ := List.getLast?_eq_some_iff.mp h
    have h1 : HT.sIx (ys ++ [x]).length 0 (some (-1)) = ys.length := by
      unfold HT.sIx
      simp
      try omega
    have h2 : HT.sIx (ys ++ [x]).length (ys ++ [x]).length none = (ys ++ [x]).length := rfl
    rw [h1, h2]
    simp
theorem find_ladder_ok (h : Bike rs cs) : ∃ F, Lad rs cs (gearsOf rs.length cs.length) F ∧ g_find_ladder [bikeD rs cs] = some (.ok (.list (F.map (ratD rs cs)))) := by
  obtain ⟨s1, s2⟩ := h.small
  have hmul : rs.length * cs.length ≤ 3 * 8 := Nat.mul_le_mul s1 s2
  unfold g_find_ladder mkG runD
  simp only [b_find_ladder, start0]
  simp [find_gears_ok h]
  generalize hF : forGo _ _ _ _ = o
  obtain ⟨m, rfl, F, x2, x3, rfl, hL, hlen, hlast⟩ := for_of hF (fun done m => ∃ F x2 x3, m = [.dat (bikeD rs cs), .own (F.map (ratD rs cs)), x2, x3] ∧ Lad rs cs done F ∧ F.length ≤ done.length ∧ ∀ k, F.getLast? = some k → ∀ g ∈ done, rle rs cs g k)
    ⟨[], .un, .un, by simp, ⟨.nil, fun g hg => (nomatch hg), fun g hg => (nomatch hg)⟩, Nat.le_refl _, fun k hk => (by simp at hk)⟩ (by
    rintro done g rest m' hd ⟨F, x2, x3, rfl, hL, hlen, hlast⟩
    have hg : g ∈ gearsOf rs.length cs.length := gearsUp_perm.mem_iff.mp (mid_mem hd)
    have hsub : ∀ x ∈ done, x ∈ gearsOf rs.length cs.length := fun x hx => gearsUp_perm.mem_iff.mp (by rw [hd]; exact List.mem_append_left _ hx)
    have hle : ∀ x ∈ done, rle rs cs x g := fun x hx => by
      have := up_pair h
      rw [hd, List.pairwise_append] at this
      exact this.2.2 x hx g List.mem_cons_self
    have hml := mid_len hd
    rw [gearsUp_perm.length_eq, gears_len] at hml
    have hFl : F.length < line := by show _ < 100000; omega
    have hdep : (F.map (ratD rs cs)).all (dep 7) = true := by
      rw [List.all_eq_true]
      intro x hx
      obtain ⟨y, _, rfl⟩ := List.mem_map.mp hx
      exact rat_dep
    have pg := pos_of h hg
    cases hl : F.getLast? with
    | none =>
      have e : F = [] := List.getLast?_eq_none_iff.mp hl
      subst e
      have hdone : done = [] := by
        cases done with
        | nil => rfl
        | cons x l => obtain ⟨k, hk, _⟩ := hL.all x List.mem_cons_self; cases hk
      subst hdone
      refine ⟨_, [.dat (bikeD rs cs), .own ([g].map (ratD rs cs)), .dat g, .dat (ratD rs cs g)], rfl, .inl ?_, [g], _, _, rfl, ⟨List.pairwise_singleton _ _, fun x hx => ?_, fun k hk => by simpa using hk⟩, by simp, fun k hk x hx => ?_⟩
      · simp [ratio_of h hg, cut_last, rat_dep, hFl, line_eq]
      · simp at hx
        subst hx
        exact ⟨_, List.mem_singleton.mpr rfl, rfl⟩
      · simp at hk hx
        subst hk hx
        exact Int.le_refl _
    | some k =>
      have hkF : k ∈ F := List.mem_of_getLast? hl
      have hkd := hL.mem k hkF
      have hk := hsub k hkd
      have pk := pos_of h hk
      have hc : cut (F.map (ratD rs cs)) (some (-1)) none = [ratD rs cs k] := by rw [cut_last, List.getLast?_map, hl]; rfl
      by_cases hs : rsm rs cs k g
      · have he := (rat_eqv h hk hg).mpr hs
        refine ⟨_, [.dat (bikeD rs cs), .own (F.map (ratD rs cs)), .dat g, .dat (ratD rs cs g)], rfl, .inl ?_, F, _, _, rfl, ⟨hL.up, fun x hx => ?_, fun x hx => List.mem_append_left _ (hL.mem x hx)⟩, by simp; omega, fun k' hk' x hx => ?_⟩
        · simp [ratio_of h hg, hc, rat_dep, he]
        · rcases List.mem_append.mp hx with hx | hx
          · exact hL.all x hx
          · have := List.mem_singleton.mp hx
            subst this
            exact ⟨k, hkF, hs⟩
        · rw [hl] at hk'
          cases hk'
          rcases List.mem_append.mp hx with hx | hx
          · exact hlast k hl x hx
          · have := List.mem_singleton.mp hx
            subst this
            exact Int.le_of_eq hs.symm
      · have he : PyData.eqv (ratD rs cs k) (ratD rs cs g) = false := by
          cases e : PyData.eqv (ratD rs cs k) (ratD rs cs g) with
          | false => rfl
          | true => exact absurd ((rat_eqv h hk hg).mp e) hs
        have hlt : rlt rs cs k g := Int.lt_iff_le_and_ne.mpr ⟨hle k hkd, hs⟩
        refine ⟨_, [.dat (bikeD rs cs), .own ((F ++ [g]).map (ratD rs cs)), .dat g, .dat (ratD rs cs g)], rfl, .inl ?_, F ++ [g], _, _, rfl, ⟨?_, fun x hx => ?_, fun x hx => ?_⟩, by simp; omega, fun k' hk' x hx => ?_⟩
        · simp [ratio_of h hg, hc, rat_dep, he, hFl]
        · rw [List.pairwise_append]
          refine ⟨hL.up, List.pairwise_singleton _ _, fun x hx y hy => ?_⟩
          have := List.mem_singleton.mp hy
          subst this
          have px := pos_of h (hsub x (hL.mem x hx))
          exact cross_lt (b := den cs x) (d := den cs k) (f := den cs y) (by omega) (by omega) (by omega) (hlast k hl x (hL.mem x hx)) hlt
        · rcases List.mem_append.mp hx with hx | hx
          · obtain ⟨y, hy, e⟩ := hL.all x hx
            exact ⟨y, List.mem_append_left _ hy, e⟩
          · have := List.mem_singleton.mp hx
            subst this
            exact ⟨x, List.mem_append_right _ (List.mem_singleton.mpr rfl), rfl⟩
        · rcases List.mem_append.mp hx with hx | hx
          · exact List.mem_append_left _ (hL.mem x hx)
          · exact List.mem_append_right _ hx
        · rw [List.getLast?_concat] at hk'
          cases hk'
          rcases List.mem_append.mp hx with hx | hx
          · exact hle x hx
          · have := List.mem_singleton.mp hx
            subst this
            exact Int.le_refl _)
  refine ⟨F, ⟨hL.up, fun g hg => hL.all g (gearsUp_perm.mem_iff.mpr hg), fun k hk => gearsUp_perm.mem_iff.mp (hL.mem k hk)⟩, by simp⟩
end
end MP

set_option Elab.async false
set_option linter.all false
set_option maxRecDepth 100000
set_option maxHeartbeats 1000000
namespace MP
open PySem PySem.Spec PyProof.Rows L2
section
variable {rs cs : List Int}
/-- the gears of one ratio -/
def like (rs cs : List Int) (k : MP.D) : List MP.D := (gearsOf rs.length cs.length).filter fun g => decide (num rs g * den cs k = num rs k * den cs g)
theorem mem_like {k g : MP.D} : g ∈ like rs cs k ↔ g ∈ gearsOf rs.length cs.length ∧ rsm rs cs g k := by
  unfold like
  rw [List.mem_filter, decide_eq_true_eq]
  exact Iff.rfl
theorem rsm_symm {x y : MP.D} (h : rsm rs cs x y) : rsm rs cs y x := Eq.symm h
theorem rsm_of {x y : MP.D} (h1 : rle rs cs x y) (h2 : rle rs cs y x) : rsm rs cs x y := Int.le_antisymm h1 h2
theorem rle_trans (h : Bike rs cs) {x y z : MP.D} (hx : x ∈ gearsOf rs.length cs.length) (hy : y ∈ gearsOf rs.length cs.length) (hz : z ∈ gearsOf rs.length cs.length) (h1 : rle rs cs x y) (h2 : rle rs cs y z) : rle rs cs x z := by
  have p := pos_of h hx; have q := pos_of h hy; have r := pos_of h hz
  exact cross_le (b := den cs x) (d := den cs y) (f := den cs z) (by omega) (by omega) (by omega) h1 h2
theorem rlt_le (h : Bike rs cs) {x y z : MP.D} (hx : x ∈ gearsOf rs.length cs.length) (hy : y ∈ gearsOf rs.length cs.length) (hz : z ∈ gearsOf rs.length cs.length) (h1 : rlt rs cs x y) (h2 : rle rs cs y z) : rlt rs cs x z := by
  have p := pos_of h hx; have q := pos_of h hy; have r := pos_of h hz
  exact cross_lt' (b := den cs x) (d := den cs y) (f := den cs z) (by omega) (by omega) (by omega) h1 h2
theorem rle_lt (h : Bike rs cs) {x y z : MP.D} (hx : x ∈ gearsOf rs.length cs.length) (hy : y ∈ gearsOf rs.length cs.length) (hz : z ∈ gearsOf rs.length cs.length) (h1 : rle rs cs x y) (h2 : rlt rs cs y z) : rlt rs cs x z := by
  have p := pos_of h hx; have q := pos_of h hy; have r := pos_of h hz
  exact cross_lt (b := den cs x) (d := den cs y) (f := den cs z) (by omega) (by omega) (by omega) h1 h2
theorem like_congr (h : Bike rs cs) {k n : MP.D} (hk : k ∈ gearsOf rs.length cs.length) (hn : n ∈ gearsOf rs.length cs.length) (e : rsm rs cs k n) : like rs cs k = like rs cs n := by
  unfold like
  refine List.filter_congr fun g hg => ?_
  have t1 : ∀ {a b c : MP.D}, a ∈ gearsOf rs.length cs.length → b ∈ gearsOf rs.length cs.length → c ∈ gearsOf rs.length cs.length → rsm rs cs a b → rsm rs cs b c → rsm rs cs a c := fun ha hb hc e1 e2 =>
    rsm_of (rle_trans h ha hb hc (Int.le_of_eq e1) (Int.le_of_eq e2)) (rle_trans h hc hb ha (Int.le_of_eq e2.symm) (Int.le_of_eq e1.symm))
  exact decide_eq_decide.mpr ⟨fun q => t1 hg hk hn q e, fun q => t1 hg hn hk q (rsm_symm e)⟩
theorem find_with_ok (h : Bike rs cs) {k : MP.D} (hk : k ∈ gearsOf rs.length cs.length) : g_find_with [bikeD rs cs, ratD rs cs k] = some (.ok (.list (like rs cs k))) := by
  obtain ⟨s1, s2⟩ := h.small
  have hn : (gearsOf rs.length cs.length).length ≤ line := by
    rw [gears_len]
    have : rs.length * cs.length ≤ 3 * 8 := Nat.mul_le_mul s1 s2
    show _ ≤ 100000
    omega
  unfold g_find_with mkG runD
  simp only [b_find_with, start0]
  simp [all_gears_ok (rs := rs) (cs := cs) (by omega) (by omega), hn]
  rw [comp_map (fun g => decide (num rs g * den cs k = num rs k * den cs g)) (fun d => d) _ (by
    intro d hd
    refine ⟨_, rfl, ?_, fun _ => by simp⟩
    have e : PyData.eqv (ratD rs cs d) (ratD rs cs k) = decide (num rs d * den cs k = num rs k * den cs d) := by
      rw [Bool.eq_iff_iff, decide_eq_true_eq]
      exact rat_eqv h hd hk
    simp [ratio_of h hd, rat_dep, e])]
  simp [like]
/-! ### the nearest one -/
def gi : MP.D → Int
  | .tuple [.int i, .int _] => i
  | _ => 0
def gj : MP.D → Int
  | .tuple [.int _, .int j] => j
  | _ => 0
def cnt (x y : MP.D) : Int := ((gi x - gi y).natAbs : Int) + ((gj x - gj y).natAbs : Int)
def dk (x y : MP.D) : MP.D := .tuple [.int (cnt x y), y]
theorem abs_nat {x : Int} : (if x < 0 then -x else x) = (x.natAbs : Int) := by split <;> omega
theorem count_ok {a b c d : Int} : g_count_shifts [gearD a b, gearD c d] = some (.ok (.int (cnt (gearD a b) (gearD c d)))) := by
  simp [g_count_shifts, mkG, runD, b_count_shifts, start0, abs_nat]
  rfl
/-- the nearest of some gears: fewest shifts, then the gear itself -/
def nearD (x : MP.D) (W : List MP.D) : MP.D := sndD ((minL (W.map (dk x))).getD .none)
theorem minD_mem : ∀ (xs : List MP.D) (x : MP.D), PySem.W.minD x xs ∈ x :: xs
  | [], x => by simp [PySem.W.minD]
  | y :: xs, x => by
    have := minD_mem xs (if PySem.W.dataLt y x then y else x)
    unfold PySem.W.minD at this ⊢
    rw [List.foldl_cons]
    split at this
    · rename_i hq
      simp only [hq, if_true]
      exact List.mem_cons_of_mem _ this
    · rename_i hq
      simp only [hq]
      rcases List.mem_cons.mp this with e | e
      · exact List.mem_cons.mpr (.inl e)
      · exact List.mem_cons_of_mem _ (List.mem_cons_of_mem _ e)
@[simp] theorem o_minD {xs : List MP.D} : bMinD [.list xs] = if okMin xs = true then minL xs else none := rfl
theorem near_of {n k : Nat} {W : List MP.D} (x : MP.D) (hW : ∀ g ∈ W, g ∈ gearsOf n k) (hne : W ≠ []) : ∃ a b : Nat, ∃ c : Int, minL (W.map (dk x)) = some (.tuple [.int c, gearD a b]) ∧ nearD x W = gearD a b ∧ gearD a b ∈ W ∧ okMin (W.map (dk x)) = true := by
  cases W with
  | nil => exact absurd rfl hne
  | cons w W =>
    have hm := minD_mem (W.map (dk x)) (dk x w)
    rw [← List.map_cons] at hm
    obtain ⟨g, hg, e⟩ := List.mem_map.mp hm
    obtain ⟨a, b, _, _, rfl⟩ := mem_gears.mp (hW g hg)
    have e1 : minL ((w :: W).map (dk x)) = some (.tuple [.int (cnt x (gearD a b)), gearD a b]) := by
      show some (PySem.W.minD (dk x w) (W.map (dk x))) = _
      rw [← e]
      rfl
    refine ⟨a, b, _, e1, ?_, hg, ?_⟩
    · unfold nearD
      rw [e1]
      rfl
    · have hall : ∀ d ∈ (w :: W).map (dk x), ∃ k a b : Int, d = .tuple [.int k, .tuple [.int a, .int b]] := fun d hd => by
        obtain ⟨g, hg, rfl⟩ := List.mem_map.mp hd
        obtain ⟨a, b, _, _, rfl⟩ := mem_gears.mp (hW g hg)
        exact ⟨_, _, _, rfl⟩
      unfold okMin
      simp only [Bool.and_eq_true, List.all_eq_true, alikeL]
      refine ⟨fun d hd => ?_, fun d hd e he => ?_, fun d hd => ?_⟩
      · obtain ⟨k, a, b, rfl⟩ := hall d hd
        simp
      · obtain ⟨k, a, b, rfl⟩ := hall d hd
        obtain ⟨k', a', b', rfl⟩ := hall e he
        simp [PySem.W.alike, PySem.W.alikeAll]
      · obtain ⟨k, a, b, rfl⟩ := hall d hd
        rfl
theorem nearest_ok (h : Bike rs cs) {g k : MP.D} (hg : g ∈ gearsOf rs.length cs.length) (hk : k ∈ gearsOf rs.length cs.length) : g_nearest_gear [bikeD rs cs, g, ratD rs cs k] = some (.ok (nearD g (like rs cs k))) := by
  obtain ⟨s1, s2⟩ := h.small
  have hW : ∀ x ∈ like rs cs k, x ∈ gearsOf rs.length cs.length := fun x hx => (mem_like.mp hx).1
  have hne : like rs cs k ≠ [] := fun e => by
    have : k ∈ like rs cs k := mem_like.mpr ⟨hk, rfl⟩
    rw [e] at this
    cases this
  have hn : (like rs cs k).length ≤ line := by
    have q := List.length_filter_le (fun g => decide (num rs g * den cs k = num rs k * den cs g)) (gearsOf rs.length cs.length)
    rw [gears_len] at q
    have : rs.length * cs.length ≤ 3 * 8 := Nat.mul_le_mul s1 s2
    unfold like
    show _ ≤ 100000
    omega
  obtain ⟨a, b, c, e1, e2, _, e3⟩ := near_of g hW hne
  obtain ⟨i, j, _, _, rfl⟩ := mem_gears.mp hg
  unfold g_nearest_gear mkG runD
  simp only [b_nearest_gear, start0]
  simp [find_with_ok h hk, hn]
  rw [comp_all (dk (gearD i j)) _ (by
    intro d hd
    obtain ⟨x, y, _, _, rfl⟩ := mem_gears.mp (hW d hd)
    exact ⟨_, rfl, by simp [count_ok, dk]⟩)]
  simp [e1, e3, e2]
/-! ### the next ratio up, the next one down -/
theorem lad_index (h : Bike rs cs) {F : List MP.D} (L : Lad rs cs (gearsOf rs.length cs.length) F) {g : MP.D} (hg : g ∈ gearsOf rs.length cs.length) :
    ∃ j : Nat, ∃ hj : j < F.length, firstAt (ratD rs cs g) (F.map (ratD rs cs)) 0 = some j ∧ rsm rs cs F[j] g := by
  obtain ⟨k, hk, hs⟩ := L.all g hg
  obtain ⟨j, hj, e⟩ := List.mem_iff_getElem.mp hk
  have hF : ∀ (i : Nat) (hi : i < F.length), PyData.eqv (ratD rs cs F[i]) (ratD rs cs g) = true → rsm rs cs F[i] g := fun i hi q => (rat_eqv h (L.mem _ (List.getElem_mem hi)) hg).mp q
  have gen : ∀ (l : List MP.D) (s : Nat), (∃ x ∈ l, PyData.eqv x (ratD rs cs g) = true) → ∃ j, firstAt (ratD rs cs g) l s = some (s + j) ∧ ∃ hj : j < l.length, PyData.eqv l[j] (ratD rs cs g) = true := by
    intro l
    induction l with
    | nil => rintro s ⟨x, hx, _⟩; cases hx
    | cons y l ih =>
      rintro s ⟨x, hx, hq⟩
      unfold firstAt
      by_cases q : PyData.eqv y (ratD rs cs g) = true
      · exact ⟨0, by rw [if_pos q]; rfl, by simp, q⟩
      · rcases List.mem_cons.mp hx with rfl | hx
        · exact absurd hq q
        · obtain ⟨j, h1, h2, h3⟩ := ih (s + 1) ⟨x, hx, hq⟩
          exact ⟨j + 1, by rw [if_neg q, h1]; congr 1; omega, by simpa using h2, by simpa using h3⟩
  obtain ⟨j, h1, h2, h3⟩ := gen (F.map (ratD rs cs)) 0 ⟨ratD rs cs k, List.mem_map.mpr ⟨k, hk, rfl⟩, (rat_eqv h (L.mem k hk) hg).mpr hs⟩
  have hj' : j < F.length := by simpa using h2
  refine ⟨j, hj', by simpa using h1, hF j hj' (by simpa using h3)⟩
theorem lad_dep {F : List MP.D} {n : Nat} : (F.map (ratD rs cs)).all (dep (n + 1)) = true := by
  rw [List.all_eq_true]
  intro x hx
  obtain ⟨y, _, rfl⟩ := List.mem_map.mp hx
  exact rat_dep
theorem atI_nat {F : List MP.D} {f : MP.D → MP.D} {j : Nat} (hj : j < F.length) : atI (F.map f) (j : Int) = some (f F[j]) := by
  rw [atI_pos (by omega) (by rw [List.length_map]; omega)]
  simp [hj]
theorem higher_ok (h : Bike rs cs) {g : MP.D} (hg : g ∈ gearsOf rs.length cs.length) :
    (∃ n ∈ gearsOf rs.length cs.length, rlt rs cs g n ∧ (∀ x ∈ gearsOf rs.length cs.length, rlt rs cs g x → rle rs cs n x) ∧ g_higher_gear [bikeD rs cs, g] = some (.ok (nearD g (like rs cs n)))) ∨
    ((∀ x ∈ gearsOf rs.length cs.length, ¬ rlt rs cs g x) ∧ g_higher_gear [bikeD rs cs, g] = some (.ok .none)) := by
  obtain ⟨F, L, eF⟩ := find_ladder_ok h
  obtain ⟨j, hj, e1, e2⟩ := lad_index h L hg
  have hFj := L.mem _ (List.getElem_mem hj)
  have cg : g_check_gear [bikeD rs cs, g] = some (.ok .none) := by
    obtain ⟨a, b, ha, hb, rfl⟩ := mem_gears.mp hg
    exact check_gear_ok (gear_nat ha hb)
  by_cases hn : j + 1 < F.length
  · left
    have hFn := L.mem _ (List.getElem_mem hn)
    have hlt : rlt rs cs F[j] F[j + 1] := List.pairwise_iff_getElem.mp L.up j (j + 1) hj hn (by omega)
    refine ⟨F[j + 1], hFn, rle_lt h hg hFj hFn (Int.le_of_eq e2.symm) hlt, fun x hx hgx => ?_, ?_⟩
    · obtain ⟨k, hk, hs⟩ := L.all x hx
      obtain ⟨i, hi, rfl⟩ := List.mem_iff_getElem.mp hk
      have hFi := L.mem _ (List.getElem_mem hi)
      have hji : j < i := by
        refine Nat.lt_of_not_le fun hle => ?_
        have : rle rs cs F[i] F[j] := by
          by_cases e : i = j
          · subst e; exact Int.le_refl _
          · exact Int.le_of_lt (List.pairwise_iff_getElem.mp L.up i j hi hj (by omega))
        have q1 : rle rs cs x F[j] := rle_trans h hx hFi hFj (Int.le_of_eq hs.symm) this
        have q2 : rle rs cs x g := rle_trans h hx hFj hg q1 (Int.le_of_eq e2)
        exact absurd hgx (Int.not_lt.mpr q2)
      have : rle rs cs F[j + 1] F[i] := by
        by_cases e : j + 1 = i
        · subst e; exact Int.le_refl _
        · exact Int.le_of_lt (List.pairwise_iff_getElem.mp L.up (j + 1) i hn hi (by omega))
      exact rle_trans h hFn hFi hx this (Int.le_of_eq hs)
    · have a1 : ((j : Int) + 1) < F.length := by omega
      have a2 : atI (F.map (ratD rs cs)) ((j : Int) + 1) = some (ratD rs cs F[j + 1]) := atI_nat (j := j + 1) hn
      simp [g_higher_gear, mkG, runD, b_higher_gear, start0, check_bike_ok h, cg, eF, ratio_of h hg, lad_dep, rat_dep, e1, a1, a2, nearest_ok h hg hFn]
  · right
    refine ⟨fun x hx hgx => ?_, ?_⟩
    · obtain ⟨k, hk, hs⟩ := L.all x hx
      obtain ⟨i, hi, rfl⟩ := List.mem_iff_getElem.mp hk
      have hFi := L.mem _ (List.getElem_mem hi)
      have : rle rs cs F[i] F[j] := by
        by_cases e : i = j
        · subst e; exact Int.le_refl _
        · exact Int.le_of_lt (List.pairwise_iff_getElem.mp L.up i j hi hj (by omega))
      have q1 : rle rs cs x F[j] := rle_trans h hx hFi hFj (Int.le_of_eq hs.symm) this
      have q2 : rle rs cs x g := rle_trans h hx hFj hg q1 (Int.le_of_eq e2)
      exact absurd hgx (Int.not_lt.mpr q2)
    · have a1 : ¬ ((j : Int) + 1) < F.length := by omega
      simp [g_higher_gear, mkG, runD, b_higher_gear, start0, check_bike_ok h, cg, eF, ratio_of h hg, lad_dep, rat_dep, e1, a1]
theorem lower_ok (h : Bike rs cs) {g : MP.D} (hg : g ∈ gearsOf rs.length cs.length) :
    (∃ n ∈ gearsOf rs.length cs.length, rlt rs cs n g ∧ (∀ x ∈ gearsOf rs.length cs.length, rlt rs cs x g → rle rs cs x n) ∧ g_lower_gear [bikeD rs cs, g] = some (.ok (nearD g (like rs cs n)))) ∨
    ((∀ x ∈ gearsOf rs.length cs.length, ¬ rlt rs cs x g) ∧ g_lower_gear [bikeD rs cs, g] = some (.ok .none)) := by
  obtain ⟨F, L, eF⟩ := find_ladder_ok h
  obtain ⟨j, hj, e1, e2⟩ := lad_index h L hg
  have hFj := L.mem _ (List.getElem_mem hj)
  have cg : g_check_gear [bikeD rs cs, g] = some (.ok .none) := by
    obtain ⟨a, b, ha, hb, rfl⟩ := mem_gears.mp hg
    exact check_gear_ok (gear_nat ha hb)
  by_cases hn : 1 ≤ j
  · left
    obtain ⟨i0, rfl⟩ : ∃ i0, j = i0 + 1 := ⟨j - 1, by omega⟩
    have hi0 : i0 < F.length := by omega
    have hFn := L.mem _ (List.getElem_mem hi0)
    have hlt : rlt rs cs F[i0] F[i0 + 1] := List.pairwise_iff_getElem.mp L.up i0 (i0 + 1) hi0 hj (by omega)
    refine ⟨F[i0], hFn, rlt_le h hFn hFj hg hlt (Int.le_of_eq e2), fun x hx hgx => ?_, ?_⟩
    · obtain ⟨k, hk, hs⟩ := L.all x hx
      obtain ⟨i, hi, rfl⟩ := List.mem_iff_getElem.mp hk
      have hFi := L.mem _ (List.getElem_mem hi)
      have hji : i < i0 + 1 := by
        refine Nat.lt_of_not_le fun hle => ?_
        have : rle rs cs F[i0 + 1] F[i] := by
          by_cases e : i = i0 + 1
          · subst e; exact Int.le_refl _
          · exact Int.le_of_lt (List.pairwise_iff_getElem.mp L.up (i0 + 1) i hj hi (by omega))
        have q1 : rle rs cs F[i0 + 1] x := rle_trans h hFj hFi hx this (Int.le_of_eq hs)
        have q2 : rle rs cs g x := rle_trans h hg hFj hx (Int.le_of_eq e2.symm) q1
        exact absurd hgx (Int.not_lt.mpr q2)
      have : rle rs cs F[i] F[i0] := by
        by_cases e : i = i0
        · subst e; exact Int.le_refl _
        · exact Int.le_of_lt (List.pairwise_iff_getElem.mp L.up i i0 hi hi0 (by omega))
      exact rle_trans h hx hFi hFn (Int.le_of_eq hs.symm) this
    · have a0 : (((i0 + 1 : Nat) : Int) - 1) = (i0 : Int) := by omega
      have a1 : (0 : Int) ≤ (i0 : Int) := by omega
      have a2 : atI (F.map (ratD rs cs)) (i0 : Int) = some (ratD rs cs F[i0]) := atI_nat hi0
      simp [g_lower_gear, mkG, runD, b_lower_gear, start0, check_bike_ok h, cg, eF, ratio_of h hg, lad_dep, rat_dep, e1, a2, nearest_ok h hg hFn]
  · right
    have hj0 : j = 0 := by omega
    subst hj0
    refine ⟨fun x hx hgx => ?_, ?_⟩
    · obtain ⟨k, hk, hs⟩ := L.all x hx
      obtain ⟨i, hi, rfl⟩ := List.mem_iff_getElem.mp hk
      have hFi := L.mem _ (List.getElem_mem hi)
      have : rle rs cs F[0] F[i] := by
        by_cases e : i = 0
        · subst e; exact Int.le_refl _
        · exact Int.le_of_lt (List.pairwise_iff_getElem.mp L.up 0 i hj hi (by omega))
      have q1 : rle rs cs F[0] x := rle_trans h hFj hFi hx this (Int.le_of_eq hs)
      have q2 : rle rs cs g x := rle_trans h hg hFj hx (Int.le_of_eq e2.symm) q1
      exact absurd hgx (Int.not_lt.mpr q2)
    · simp [g_lower_gear, mkG, runD, b_lower_gear, start0, check_bike_ok h, cg, eF, ratio_of h hg, lad_dep, rat_dep, e1]
end
end MP

set_option Elab.async false
set_option linter.all false
set_option maxRecDepth 100000
set_option maxHeartbeats 1000000
namespace MP
open PySem PySem.Spec PyProof.Rows L2
/-! ### reduced fractions -/
structure Red (a b p q : Int) : Prop where
  p0 : 0 < p
  q0 : 0 < q
  x : p * b = a * q
  pa : p ≤ a
  qb : q ≤ b
  cop : Int.gcd p q = 1
theorem red_spec {a b : Int} (ha : 0 < a) (hb : 0 < b) : ∃ p q, redD a b = .tuple [.int p, .int q] ∧ Red a b p q := by
  obtain ⟨a1, b1⟩ := red_mul (a := a) hb
  have g := gcd_pos (a := a) hb
  have q0 := red_pos (a := a) hb
  have p0 : 0 < a / (Int.gcd a b : Int) := Int.ediv_pos_of_pos_of_dvd ha (by omega) (Int.gcd_dvd_left ..)
  refine ⟨_, _, rfl, p0, q0, ?_, Int.ediv_le_self _ (by omega), Int.ediv_le_self _ (by omega), ?_⟩
  · calc a / (Int.gcd a b : Int) * b = a / (Int.gcd a b : Int) * (b / (Int.gcd a b : Int) * (Int.gcd a b : Int)) := by rw [b1]
      _ = (a / (Int.gcd a b : Int) * (Int.gcd a b : Int)) * (b / (Int.gcd a b : Int)) := by simp only [Int.mul_assoc, Int.mul_comm, Int.mul_left_comm]
      _ = a * (b / (Int.gcd a b : Int)) := by rw [a1]
  · obtain ⟨x, rfl⟩ := Int.eq_ofNat_of_zero_le (Int.le_of_lt ha)
    obtain ⟨y, rfl⟩ := Int.eq_ofNat_of_zero_le (Int.le_of_lt hb)
    have hg : 0 < Nat.gcd x y := by have : 0 < ((Nat.gcd x y : Nat) : Int) := g; omega
    show Int.gcd ((x : Int) / (Nat.gcd x y : Nat)) ((y : Int) / (Nat.gcd x y : Nat)) = 1
    rw [← Int.natCast_ediv, ← Int.natCast_ediv]
    exact Nat.coprime_div_gcd_div_gcd hg
theorem red_self {p q : Int} (hc : Int.gcd p q = 1) : redD p q = .tuple [.int p, .int q] := by
  unfold redD
  rw [hc]
  simp
theorem least_ok {a b : Int} (ha : 0 ≤ a) (hb : 0 < b) (hb2 : b < 1000000000) : g__law_least [.int a, .int b] = some (.ok (redD a b)) := by
  have h1 := gcd_pos (a := a) hb
  have h2 := gcd_le (a := a) hb
  have h3 : (Int.gcd a b : Int) < 18446744073709551616 := by omega
  have h1' : 0 < Int.gcd a b := by omega
  unfold g__law_least mkG runD
  simp only [b__law_least, start0]
  simp
  generalize hW : whileGo _ _ _ _ = o
  obtain ⟨m, rfl, ⟨x, y, rfl, hx, hy, hg⟩, hend⟩ := while_of hW (fun m => ∃ x y : Int, m = [.dat (.int a), .dat (.int b), .dat (.int x), .dat (.int y)] ∧ 0 ≤ x ∧ 0 ≤ y ∧ Int.gcd x y = Int.gcd a b) (intAt 3) ⟨a, b, rfl, ha, by omega, rfl⟩ (by simp [intAt]; omega) (by
    rintro m ⟨x, y, rfl, hx, hy, hg⟩
    by_cases q : 0 < y
    · right
      refine ⟨by simp [q], [.dat (.int a), .dat (.int b), .dat (.int y), .dat (.int (x % y))], by simp [q], ⟨y, x % y, rfl, hy, Int.emod_nonneg _ (by omega), ?_⟩, ?_⟩
      · rw [← hg]
        exact gcd_step hx hy
      · have := Int.emod_lt_of_pos x q
        have := Int.emod_nonneg x (show y ≠ 0 by omega)
        simp [intAt]
        omega
    · left
      simp [q])
  simp at hend
  have e : y = 0 := by omega
  subst e
  have ex : x = (Int.gcd a b : Int) := by
    rw [← hg]
    simp
    omega
  subst ex
  simp [h1', h3, redD]
/-! ### speeds -/
section
variable {rs cs : List Int} {i j : Int}
theorem check_wheel_ok {s : Int} (h : 100 ≤ s ∧ s ≤ 250) : g_check_wheel [.int s] = some (.ok .none) := by
  simp [g_check_wheel, mkG, runD, b_check_wheel, start0, h.1, h.2]
theorem check_turns_ok {s : Int} (h : 1 ≤ s ∧ s ≤ 150) : g_check_turns [.int s] = some (.ok .none) := by
  simp [g_check_turns, mkG, runD, b_check_turns, start0, h.1, h.2]
theorem check_way_ok {s : Int} (h : 1 ≤ s ∧ s ≤ 100000) : g_check_way [.int s] = some (.ok .none) := by
  simp [g_check_way, mkG, runD, b_check_way, start0, h.1, h.2]
theorem ratio_ok (h : Bike rs cs) (g : Gear rs cs i j) : g_ratio [bikeD rs cs, gearD i j] = some (.ok (redD (nth rs i) (nth cs j))) := by
  simp [g_ratio, mkG, runD, b_ratio, start0, check_bike_ok h, check_gear_ok g, find_ratio_ok h g]
theorem mul_bound {a b : Int} {m n : Int} (ha : 0 < a ∧ a ≤ m) (hb : 0 < b ∧ b ≤ n) : 0 < a * b ∧ a * b ≤ m * n :=
  ⟨Int.mul_pos ha.1 hb.1, Int.mul_le_mul ha.2 hb.2 (by omega) (by omega)⟩
theorem speed_ok {w t : Int} (h : Bike rs cs) (g : Gear rs cs i j) (hw : 100 ≤ w ∧ w ≤ 250) (ht : 1 ≤ t ∧ t ≤ 150) : g_speed [bikeD rs cs, gearD i j, .int w, .int t] = some (.ok (redD (nth rs i * w * t) (nth cs j))) := by
  have b := h.gear g
  have m1 := mul_bound (a := nth rs i) (b := w) (m := 60) (n := 250) (by omega) (by omega)
  have m2 := mul_bound (a := nth rs i * w) (b := t) (m := 15000) (n := 150) (by omega) (by omega)
  have c1 : -18446744073709551616 < nth rs i ∧ nth rs i < 18446744073709551616 := by omega
  have c2 : -18446744073709551616 < nth rs i * w ∧ nth rs i * w < 18446744073709551616 := by omega
  simp [g_speed, mkG, runD, b_speed, start0, check_bike_ok h, check_gear_ok g, check_wheel_ok hw, check_turns_ok ht, idx_t g.i0 g.i1, idx_t g.j0 g.j1, c1, c2, reduced_ok (a := nth rs i * w * t) (b := nth cs j) (by omega) (by omega) (by omega)]
theorem turns_for_ok {w f : Int} (h : Bike rs cs) (g : Gear rs cs i j) (hw : 100 ≤ w ∧ w ≤ 250) (hf : 1 ≤ f ∧ f ≤ 100000) : g_turns_for [bikeD rs cs, gearD i j, .int w, .int f] = some (.ok (redD (f * nth cs j) (nth rs i * w))) := by
  have b := h.gear g
  have m1 := mul_bound (a := nth rs i) (b := w) (m := 60) (n := 250) (by omega) (by omega)
  have m2 := mul_bound (a := f) (b := nth cs j) (m := 100000) (n := 50) (by omega) (by omega)
  have c1 : -18446744073709551616 < nth rs i ∧ nth rs i < 18446744073709551616 := by omega
  have c2 : -18446744073709551616 < f ∧ f < 18446744073709551616 := by omega
  simp [g_turns_for, mkG, runD, b_turns_for, start0, check_bike_ok h, check_gear_ok g, check_wheel_ok hw, check_way_ok hf, idx_t g.i0 g.i1, idx_t g.j0 g.j1, c1, c2, reduced_ok (a := f * nth cs j) (b := nth rs i * w) (by omega) (by omega) (by omega)]
/-- what lies between -/
def betw (rs cs : List Int) (w l m f : Int) (d : MP.D) : Bool := decide (l * (num rs d * w) ≤ f * den cs d) && decide (f * den cs d ≤ m * (num rs d * w))
theorem gears_between_ok {w l m f : Int} (h : Bike rs cs) (hw : 100 ≤ w ∧ w ≤ 250) (hl : 1 ≤ l ∧ l ≤ 150) (hm : 1 ≤ m ∧ m ≤ 150) (hf : 1 ≤ f ∧ f ≤ 100000) :
    g_gears_between [bikeD rs cs, .int w, .int l, .int m, .int f] = some (.ok (.list ((gearsOf rs.length cs.length).filter (betw rs cs w l m f)))) := by
  obtain ⟨s1, s2⟩ := h.small
  have hmul : rs.length * cs.length ≤ 3 * 8 := Nat.mul_le_mul s1 s2
  unfold g_gears_between mkG runD
  simp only [b_gears_between, start0]
  simp [check_bike_ok h, check_wheel_ok hw, check_turns_ok hl, check_turns_ok hm, check_way_ok hf, all_gears_ok (rs := rs) (cs := cs) (by omega) (by omega)]
  generalize hF : forGo _ _ _ _ = o
  obtain ⟨m1, rfl, x6, x7, x8, rfl⟩ := for_of hF (fun done mm => ∃ x6 x7 x8, mm = [.dat (bikeD rs cs), .dat (.int w), .dat (.int l), .dat (.int m), .dat (.int f), .own (done.filter (betw rs cs w l m f)), x6, x7, x8]) ⟨.un, .un, .un, by simp⟩ (by
    rintro done d rest m' hd ⟨x6, x7, x8, rfl⟩
    obtain ⟨a, b, ha, hb, rfl⟩ := mem_gears.mp (mid_mem hd)
    have g := gear_nat ha hb
    have bb := h.gear g
    have hml := mid_len hd
    rw [gears_len] at hml
    have hfl := List.length_filter_le (betw rs cs w l m f) done
    have hll : (done.filter (betw rs cs w l m f)).length < line := by show _ < 100000; omega
    have c1 : -18446744073709551616 < nth rs a ∧ nth rs a < 18446744073709551616 := by omega
    have c2 : -18446744073709551616 < l ∧ l < 18446744073709551616 := by omega
    have c3 : -18446744073709551616 < m ∧ m < 18446744073709551616 := by omega
    have c4 : -18446744073709551616 < f ∧ f < 18446744073709551616 := by omega
    refine ⟨_, [.dat (bikeD rs cs), .dat (.int w), .dat (.int l), .dat (.int m), .dat (.int f), .own ((done ++ [gearD a b]).filter (betw rs cs w l m f)), .dat (.int a), .dat (.int b), .dat (.int (nth rs a * w))], bind_gear, .inl ?_, _, _, _, rfl⟩
    have eb : betw rs cs w l m f (gearD a b) = (decide (l * (nth rs a * w) ≤ f * nth cs b) && decide (f * nth cs b ≤ m * (nth rs a * w))) := rfl
    rw [List.filter_append]
    by_cases q1 : l * (nth rs a * w) ≤ f * nth cs b
    · by_cases q2 : f * nth cs b ≤ m * (nth rs a * w)
      · simp [idx_t g.i0 g.i1, idx_t g.j0 g.j1, c1, c2, c3, c4, q1, q2, eb, hll, tup_gear]
      · simp [idx_t g.i0 g.i1, idx_t g.j0 g.j1, c1, c2, c3, c4, q1, q2, eb]
    · simp [idx_t g.i0 g.i1, idx_t g.j0 g.j1, c1, c2, c3, c4, q1, eb])
  simp
/-! ### the closest one -/
def prodI : List Int → Int
  | [] => 1
  | x :: xs => x * prodI xs
theorem prod_pos : ∀ {l : List Int}, (∀ t ∈ l, 0 < t) → 0 < prodI l
  | [], _ => by decide
  | x :: xs, h => Int.mul_pos (h x List.mem_cons_self) (prod_pos fun t ht => h t (List.mem_cons_of_mem _ ht))
theorem dvd_prod : ∀ {l : List Int} {t : Int}, t ∈ l → t ∣ prodI l
  | [], t, h => by cases h
  | x :: xs, t, h => by
    rcases List.mem_cons.mp h with rfl | h
    · exact Int.dvd_mul_right ..
    · exact Int.dvd_trans (dvd_prod h) (Int.dvd_mul_left ..)
theorem prod_app (l : List Int) (x : Int) : prodI (l ++ [x]) = prodI l * x := by
  induction l with
  | nil => simp [prodI]
  | cons y l ih => simp [prodI, ih, Int.mul_assoc]
/-- how far off, in units of 1 / (all cogs multiplied) -/
def offI (rs cs : List Int) (w t f : Int) (d : MP.D) : Int := ((num rs d * w * t - f * den cs d).natAbs : Int) * (prodI cs / den cs d)
def offD (rs cs : List Int) (w t f : Int) (d : MP.D) : MP.D := .tuple [.int (offI rs cs w t f d), d]
def bestD (rs cs : List Int) (w t f : Int) : MP.D := sndD ((minL ((gearsOf rs.length cs.length).map (offD rs cs w t f))).getD .none)
theorem prod_le : ∀ {l : List Int} {n : Nat}, l.length ≤ n → (∀ t ∈ l, 0 < t ∧ t ≤ 50) → prodI l ≤ 50 ^ n
  | [], n, _, _ => by
    have : (0 : Int) < 50 ^ n := Int.pow_pos (by decide)
    simp [prodI]
    omega
  | x :: xs, 0, hl, _ => by simp at hl
  | x :: xs, n + 1, hl, h => by
    have ih := prod_le (l := xs) (n := n) (by simpa using hl) fun t ht => h t (List.mem_cons_of_mem _ ht)
    have hx := h x List.mem_cons_self
    have hp := prod_pos (l := xs) fun t ht => (h t (List.mem_cons_of_mem _ ht)).1
    have := Int.mul_le_mul hx.2 ih (by omega) (by omega)
    rw [Int.pow_succ, Int.mul_comm (50 ^ n)]
    exact this
end
end MP

set_option Elab.async false
set_option linter.all false
set_option maxRecDepth 100000
set_option maxHeartbeats 1000000
/-! texts of numbers -/
namespace MP
open PySem PySem.Spec PyProof.Rows L2
def joinC (c : Nat) : List (List Nat) → List Nat
  | [] => []
  | [p] => p
  | p :: q :: r => p ++ c :: joinC c (q :: r)
theorem mkS_app (a b : List Nat) : mkS a ++ mkS b = mkS (a ++ b) := by
  show Str.mk (a.toArray ++ b.toArray) = _
  simp
theorem mkS_len (a : List Nat) : (mkS a).length = a.length := by simp [Str.length]
theorem mkS_cps (z : Str) : mkS z.cps.toList = z := by cases z; simp
theorem mkS_inj {a b : List Nat} : mkS a = mkS b ↔ a = b := by simp
theorem str_join (c : Nat) : ∀ l : List (List Nat), Str.join (mkS [c]) (l.map mkS) = mkS (joinC c l)
  | [] => rfl
  | [p] => rfl
  | p :: q :: r => by
    show mkS p ++ mkS [c] ++ Str.join (mkS [c]) ((q :: r).map mkS) = _
    rw [str_join c (q :: r), mkS_app, mkS_app]
    simp [joinC]
theorem txt_join (c : Nat) (l : List (List Nat)) : Txt.join (mkS [c]) (l.map mkS) = mkS (joinC c l) := (StrLaws.glued_eq_join _ _).trans (str_join c l)
theorem splC_free {c : Nat} : ∀ {l : List Nat}, c ∉ l → splC c l = [l]
  | [], _ => rfl
  | x :: r, h => by
    simp only [List.mem_cons, not_or] at h
    unfold splC
    rw [if_neg (fun e => h.1 e.symm), splC_free h.2]
theorem splC_app {c : Nat} : ∀ {p : List Nat} {r : List Nat}, c ∉ p → splC c (p ++ c :: r) = p :: splC c r
  | [], r, _ => by simp [splC]
  | x :: p, r, h => by
    simp only [List.mem_cons, not_or] at h
    have ih := splC_app (c := c) (p := p) (r := r) h.2
    show splC c (x :: (p ++ c :: r)) = (x :: p) :: splC c r
    rw [splC.eq_2, if_neg (fun e => h.1 e.symm), ih]
theorem splC_join {c : Nat} : ∀ {l : List (List Nat)}, l ≠ [] → (∀ p ∈ l, c ∉ p) → splC c (joinC c l) = l
  | [], h, _ => absurd rfl h
  | [p], _, h => splC_free (h p (by simp))
  | p :: q :: r, _, h => by
    show splC c (p ++ c :: joinC c (q :: r)) = _
    rw [splC_app (h p (by simp)), splC_join (by simp) fun x hx => h x (List.mem_cons_of_mem _ hx)]
theorem join_splC {c : Nat} : ∀ l : List Nat, joinC c (splC c l) = l
  | [] => rfl
  | x :: r => by
    have ih := join_splC (c := c) r
    obtain ⟨p, ps, e⟩ := splC_ne c r
    unfold splC
    by_cases h : x = c
    · rw [if_pos h, e]
      rw [e] at ih
      show [] ++ c :: joinC c (p :: ps) = _
      rw [ih, h]
      rfl
    · rw [if_neg h, e]
      rw [e] at ih
      cases ps with
      | nil => show x :: p = _; rw [show p = r from ih]
      | cons q ps => show x :: p ++ c :: joinC c (q :: ps) = _; rw [← ih]; rfl
theorem splC_len {c : Nat} : ∀ l : List Nat, (splC c l).length ≤ l.length + 1
  | [] => by simp [splC]
  | x :: r => by
    have ih := splC_len (c := c) r
    obtain ⟨p, ps, e⟩ := splC_ne c r
    unfold splC
    by_cases h : x = c
    · rw [if_pos h]; simp; omega
    · rw [if_neg h, e]
      rw [e] at ih
      simpa using Nat.le_succ_of_le ih
theorem splC_part {c : Nat} : ∀ (l : List Nat) (p : List Nat), p ∈ splC c l → p.length ≤ l.length
  | [], p, h => by simp [splC] at h; simp [h]
  | x :: r, p, h => by
    have ih := splC_part (c := c) r
    obtain ⟨q, qs, e⟩ := splC_ne c r
    unfold splC at h
    by_cases hx : x = c
    · rw [if_pos hx] at h
      rcases List.mem_cons.mp h with rfl | h
      · simp
      · have := ih p h; simp; omega
    · rw [if_neg hx, e] at h
      rw [e] at ih
      rcases List.mem_cons.mp h with rfl | h
      · have := ih q (by simp); simp; omega
      · have := ih p (List.mem_cons_of_mem _ h); simp; omega
/-! ### numbers -/
def digs (n : Nat) : List Nat := if n < 10 then [48 + n] else [48 + n / 10, 48 + n % 10]
theorem str_num : ∀ n : Fin 100, Str.ofString (toString (n.val : Int)) = mkS (digs n.val) := by decide +kernel
theorem bstr_ok {i : Int} (h0 : 0 ≤ i) (h1 : i < 100) : bStr [.int i] = some (.str (mkS (digs i.toNat))) := by
  have h := str_num ⟨i.toNat, by omega⟩
  have e : ((i.toNat : Nat) : Int) = i := by omega
  simp only [e] at h
  show (if i.natAbs < 1000000 then some (PyData.str (Str.ofString (toString i))) else none) = _
  rw [if_pos (by omega), h]
def rd : List Nat → Int
  | [a] => if 49 ≤ a ∧ a ≤ 57 then (a : Int) - 48 else 0
  | [a, b] => if (49 ≤ a ∧ a ≤ 57) ∧ 48 ≤ b ∧ b ≤ 57 then ((a : Int) - 48) * 10 + ((b : Int) - 48) else 0
  | _ => 0
theorem rd_digs : ∀ n : Fin 100, rd (digs n.val) = n.val := by decide +kernel
theorem rd_num {i : Int} (h0 : 0 ≤ i) (h1 : i < 100) : rd (digs i.toNat) = i := by
  have h := rd_digs ⟨i.toNat, by omega⟩
  simp only at h
  rw [h]; omega
theorem rd_range (l : List Nat) : 0 ≤ rd l ∧ rd l < 100 := by
  unfold rd
  split
  · split <;> omega
  · split <;> omega
  · omega
theorem digs_rd {l : List Nat} (h : rd l ≠ 0) : digs (rd l).toNat = l := by
  unfold rd at h ⊢
  split at h <;> try (exact absurd rfl h)
  · rename_i a
    split at h
    · rename_i ha
      rw [if_pos ha]
      unfold digs
      rw [if_pos (by omega)]
      congr 1
      omega
    · exact absurd rfl h
  · rename_i a b
    split at h
    · rename_i ha
      rw [if_pos ha]
      unfold digs
      have e : (((a : Int) - 48) * 10 + ((b : Int) - 48)).toNat = (a - 48) * 10 + (b - 48) := by omega
      rw [e, if_neg (by omega)]
      have e1 : ((a - 48) * 10 + (b - 48)) / 10 = a - 48 := by omega
      have e2 : ((a - 48) * 10 + (b - 48)) % 10 = b - 48 := by omega
      rw [e1, e2]
      congr 1
      · omega
      · congr 1; omega
    · exact absurd rfl h
theorem digs_fig (n : Nat) (h : n < 100) : ∀ c ∈ digs n, 48 ≤ c ∧ c ≤ 57 := by
  intro c hc
  unfold digs at hc
  split at hc
  · simp at hc; omega
  · simp at hc; omega
theorem digs_len (n : Nat) : (digs n).length ≤ 2 := by unfold digs; split <;> simp
theorem digs_ne (n : Nat) : digs n ≠ [] := by unfold digs; split <;> simp
theorem joinC_len {c B : Nat} : ∀ l : List (List Nat), (∀ p ∈ l, p.length ≤ B) → (joinC c l).length ≤ l.length * (B + 1)
  | [], _ => by simp [joinC]
  | [p], h => by have := h p (by simp); simp [joinC]; omega
  | p :: q :: r, h => by
    have h1 := h p (by simp)
    have h2 := joinC_len (c := c) (q :: r) fun x hx => h x (List.mem_cons_of_mem _ hx)
    show (p ++ c :: joinC c (q :: r)).length ≤ _
    have e : (p :: q :: r).length * (B + 1) = (q :: r).length * (B + 1) + (B + 1) := by
      show ((q :: r).length + 1) * (B + 1) = _
      rw [Nat.add_mul]; omega
    rw [e]
    simp only [List.length_append, List.length_cons] at h2 ⊢
    omega
theorem joinC_not {c d : Nat} (hd : d ≠ c) : ∀ {l : List (List Nat)}, (∀ p ∈ l, d ∉ p) → d ∉ joinC c l
  | [], _ => by simp [joinC]
  | [p], h => h p (by simp)
  | p :: q :: r, h => by
    have h2 := joinC_not (c := c) hd (l := q :: r) fun x hx => h x (List.mem_cons_of_mem _ hx)
    show d ∉ p ++ c :: joinC c (q :: r)
    simp only [List.mem_append, List.mem_cons, not_or]
    exact ⟨h p (by simp), hd, h2⟩
@[simp] theorem o_lenS {z : Str} : bLen [.str z] = if z.length ≤ line then some (.int z.length) else none := rfl
@[simp] theorem o_addS {x y : Str} : gAdd (.str x) (.str y) = if x.length + y.length ≤ line then some (.str (x ++ y)) else none := rfl
@[simp] theorem k_tyS {x : Str} : tyOk "str" (.str x) = true := rfl
@[simp] theorem k_iSeqS {z : Str} : iSeqK (some (.ok (.str z))) = some (.ok (signs z)) := rfl
/-- signs of the first plane -/
def okC (l : List Nat) : Prop := ∀ c ∈ l, c < 256
theorem okC_app {a b : List Nat} (ha : okC a) (hb : okC b) : okC (a ++ b) := fun c hc => (List.mem_append.mp hc).elim (ha c) (hb c)
theorem dep_str {n : Nat} {l : List Nat} (h : okC l) : dep n (.str (mkS l)) = true := by
  have e : PyData.strOk (mkS l) = true := by
    show l.toArray.all (· < 0x110000) = true
    rw [Array.all_eq_true_iff_forall_mem]
    intro c hc
    have := h c (by simpa using hc)
    simp
    omega
  cases n
  · exact e
  · exact e
theorem okC_join {c : Nat} (hc : c < 256) : ∀ {l : List (List Nat)}, (∀ p ∈ l, okC p) → okC (joinC c l)
  | [], _ => fun x hx => nomatch hx
  | [p], h => h p (by simp)
  | p :: q :: r, h => by
    have h2 := okC_join hc (l := q :: r) fun x hx => h x (List.mem_cons_of_mem _ hx)
    show okC (p ++ c :: joinC c (q :: r))
    refine okC_app (h p (by simp)) fun x hx => ?_
    rcases List.mem_cons.mp hx with rfl | hx
    · exact hc
    · exact h2 x hx
theorem okC_digs {n : Nat} (h : n < 100) : okC (digs n) := fun c hc => by have := digs_fig n h c hc; omega
@[simp] theorem eqv_str {a b : Str} : PyData.eqv (.str a) (.str b) = (a == b) := by simp [PyData.eqv]
theorem join_ok {c : Nat} {ps : List (List Nat)} (h : (joinC c ps).length + ps.length ≤ 1000000) (hs : (ps.map (·.length)).sum + ps.length ≤ 16777216) : gJoin (.str (mkS [c])) (.list (ps.map fun p => .str (mkS p))) = some (.str (mkS (joinC c ps))) := by
  have e : ps.map (fun p => PyData.str (mkS p)) = (ps.map mkS).map PyData.str := by simp
  rw [e]
  show (strsD ((ps.map mkS).map PyData.str)).bind _ = _
  rw [strsD_map]
  show (if ((ps.map mkS).map (·.length)).sum + (ps.map mkS).length * (mkS [c]).length ≤ 16777216 then some (PyData.str (Txt.join (mkS [c]) (ps.map mkS))) else none) = _
  rw [txt_join, if_pos]
  have e2 : (ps.map mkS).map (·.length) = ps.map (·.length) := by simp [Function.comp_def, mkS_len]
  rw [e2]
  simpa [mkS_len] using hs
theorem split_ok {c : Nat} {l : List Nat} (hc : c < 256) (hl : l.length ≤ line) : gSplit (.str (mkS l)) (.str (mkS [c])) = some (.list ((splC c l).map fun p => .str (mkS p))) := by
  show (if c < 256 ∧ (mkS l).length ≤ line then some (PyData.list ((splC c l).map fun p => .str (mkS p))) else none) = _
  rw [if_pos ⟨hc, by rw [mkS_len]; exact hl⟩]
end MP

set_option Elab.async false
set_option linter.all false
set_option maxRecDepth 100000
set_option maxHeartbeats 1000000
/-! reading of charts -/
namespace MP
open PySem PySem.Spec PyProof.Rows L2
def compXK (vs : List Nat) (t : Tg) (fc fl : E) (m : En) : Option ResL → Option Res
  | some (.ok ds) => if ds.length ≤ line then (match compGoX t fc fl (wipeM m vs) ds with
    | some (.ok ys) => some (.ok (.list ys))
    | some (.exc c) => some (.exc c)
    | none => none) else none
  | some (.exc c) => some (.exc c)
  | none => none
@[simp] theorem x_compX {vs : List Nat} {t : Tg} {fi : EL} {fc fl : E} {m : En} : eCompX vs t fi fc fl m = compXK vs t fc fl m (fi m) := by
  unfold eCompX compXK
  cases fi m with
  | none => rfl
  | some z => cases z <;> rfl
def seqR : List Res → ResL
  | [] => .ok []
  | .exc c :: _ => .exc c
  | .ok d :: r => match seqR r with
    | .ok ds => .ok (d :: ds)
    | .exc c => .exc c
def listR : ResL → Res
  | .ok ds => .ok (.list ds)
  | .exc c => .exc c
theorem compX_all {t : Tg} {fl : E} {m : En} (h : MP.D → Res) : ∀ ds : List MP.D, (∀ d ∈ ds, ∃ m1, bindT t d m = some m1 ∧ fl m1 = some (h d)) → compGoX t (eC (.bool true)) fl m ds = some (seqR (ds.map h))
  | [], _ => rfl
  | d :: ds, q => by
    obtain ⟨m1, h1, h2⟩ := q d List.mem_cons_self
    have ih := compX_all h ds fun e he => q e (List.mem_cons_of_mem _ he)
    unfold compGoX
    rw [h1]
    simp only [x_C, h2, ih, List.map_cons]
    cases hd : h d with
    | exc c => rfl
    | ok y =>
      simp only [seqR]
      cases seqR (ds.map h) <;> rfl
theorem k_compX {vs : List Nat} {t : Tg} {fl : E} {m : En} (h : MP.D → Res) {ds : List MP.D} (hl : ds.length ≤ line) (q : ∀ d ∈ ds, ∃ m1, bindT t d (wipeM m vs) = some m1 ∧ fl m1 = some (h d)) :
    compXK vs t (eC (.bool true)) fl m (some (.ok ds)) = some (listR (seqR (ds.map h))) := by
  show (if ds.length ≤ line then (match compGoX t (eC (.bool true)) fl (wipeM m vs) ds with
    | some (.ok ys) => some (Res.ok (.list ys))
    | some (.exc c) => some (.exc c)
    | none => none) else none) = _
  rw [compX_all h ds q, if_pos hl]
  cases seqR (ds.map h) <;> rfl
@[simp] theorem mkS_beq {a b : List Nat} : (mkS a == mkS b) = decide (a = b) := by
  by_cases h : a = b
  · subst h; simp
  · rw [decide_eq_false h]
    exact beq_false_of_ne fun e => h (by simpa using e)
theorem s_figs : (Str.ofString "0123456789").cps.toList = [48, 49, 50, 51, 52, 53, 54, 55, 56, 57] := by decide +kernel
@[simp] theorem s_zero : Str.ofString "0" = mkS [48] := by decide +kernel
@[simp] theorem s_colon : Str.ofString ":" = mkS [58] := by decide +kernel
@[simp] theorem s_space : Str.ofString " " = mkS [32] := by decide +kernel
@[simp] theorem s_dash : Str.ofString "-" = mkS [45] := by decide +kernel
@[simp] theorem s_slash : Str.ofString "/" = mkS [47] := by decide +kernel
theorem mem_figs {c : Nat} : decide (c ∈ (Str.ofString "0123456789").cps.toList) = (decide (48 ≤ c) && decide (c ≤ 57)) := by
  rw [s_figs]
  by_cases h : 48 ≤ c ∧ c ≤ 57
  · rw [decide_eq_true (p := 48 ≤ c) h.1, decide_eq_true (p := c ≤ 57) h.2]
    have : c = 48 ∨ c = 49 ∨ c = 50 ∨ c = 51 ∨ c = 52 ∨ c = 53 ∨ c = 54 ∨ c = 55 ∨ c = 56 ∨ c = 57 := by omega
    rcases this with rfl | rfl | rfl | rfl | rfl | rfl | rfl | rfl | rfl | rfl <;> decide
  · rw [decide_eq_false (p := c ∈ [48, 49, 50, 51, 52, 53, 54, 55, 56, 57]) (by simp; omega)]
    by_cases h1 : 48 ≤ c
    · rw [decide_eq_false (p := c ≤ 57) (by omega)]; simp
    · rw [decide_eq_false h1]; rfl
theorem in_figs {c : Nat} : gInS (.str ⟨#[c]⟩) (.str "0123456789") = some (.bool (decide (48 ≤ c) && decide (c ≤ 57))) := by
  show some (PyData.bool (decide (c ∈ (Str.ofString "0123456789").cps.toList))) = _
  rw [mem_figs]
theorem signs_mk (l : List Nat) : signs (mkS l) = l.map fun c => .str ⟨#[c]⟩ := rfl
@[simp] theorem idxS {l : List Nat} {i : Int} : gIdx (.str (mkS l)) (.int i) = if l.length ≤ line then (atI l i).map (fun c => .str (mkS [c])) else none := by
  show (if (mkS l).length ≤ line then _ else _) = _
  rw [mkS_len]
theorem rd_long {l : List Nat} (h : 2 < l.length) : rd l = 0 := by
  match l, h with
  | a :: b :: c :: r, _ => rfl
theorem sOk {c : Nat} (h : c < 256) {n : Nat} : dep n (.str (mkS [c])) = true := dep_str (fun x hx => by simp at hx; omega)
theorem intS1 {a : Nat} (h : 48 ≤ a ∧ a ≤ 57) : bIntS [.str (mkS [a])] = some (.int ((a : Int) - 48)) := by
  show (numT [a]).map PyData.int = _
  simp [numT, h]
theorem intS2 {a b : Nat} (h : 48 ≤ a ∧ a ≤ 57) (h2 : 48 ≤ b ∧ b ≤ 57) : bIntS [.str (mkS [a, b])] = some (.int (((a : Int) - 48) * 10 + ((b : Int) - 48))) := by
  show (numT [a, b]).map PyData.int = _
  simp [numT, h, h2]
theorem read_int_ok {l : List Nat} (hl : l.length ≤ line) : g_read_int [.str (mkS l)] = some (.ok (.int (rd l))) := by
  have hL : (1 : Nat) ≤ line ∧ (2 : Nat) ≤ line := ⟨by decide, by decide⟩
  match l, hl with
  | [], _ => simp [g_read_int, mkG, runD, b_read_int, start0, mkS_len, rd]
  | [a], _ =>
    have e : signs (mkS [a]) = [.str ⟨#[a]⟩] := rfl
    by_cases h1 : 48 ≤ a ∧ a ≤ 57
    · have hs := sOk (c := a) (by omega) (n := 8)
      have h48 := sOk (c := 48) (by omega) (n := 8)
      by_cases h2 : a = 48
      · subst h2
        simp [g_read_int, mkG, runD, b_read_int, start0, mkS_len, e, in_figs, hL.1, hs, rd]
      · have h3 : 49 ≤ a := by omega
        simp [g_read_int, mkG, runD, b_read_int, start0, mkS_len, e, in_figs, hL.1, hs, h48, rd, h1, h2, h3, intS1 h1]
    · have h4 : ¬(49 ≤ a ∧ a ≤ 57) := by omega
      have h5 : (decide (48 ≤ a) && decide (a ≤ 57)) = false := by simpa using h1
      simp [g_read_int, mkG, runD, b_read_int, start0, mkS_len, e, in_figs, hL.1, rd, h4, h5]
  | [a, b], _ =>
    have e : signs (mkS [a, b]) = [.str ⟨#[a]⟩, .str ⟨#[b]⟩] := rfl
    by_cases h1 : 48 ≤ a ∧ a ≤ 57
    · have hs := sOk (c := a) (by omega) (n := 8)
      have h48 := sOk (c := 48) (by omega) (n := 8)
      by_cases hb : 48 ≤ b ∧ b ≤ 57
      · by_cases h2 : a = 48
        · subst h2
          simp [g_read_int, mkG, runD, b_read_int, start0, mkS_len, e, in_figs, hL.1, hL.2, hs, rd, hb]
        · have h3 : 49 ≤ a := by omega
          simp [g_read_int, mkG, runD, b_read_int, start0, mkS_len, e, in_figs, hL.1, hL.2, hs, h48, rd, h1, h2, h3, hb, intS2 h1 hb]
      · have h5 : (decide (48 ≤ b) && decide (b ≤ 57)) = false := by simpa using hb
        have h4 : ¬((49 ≤ a ∧ a ≤ 57) ∧ 48 ≤ b ∧ b ≤ 57) := fun h => hb h.2
        simp [g_read_int, mkG, runD, b_read_int, start0, mkS_len, e, in_figs, hL.1, hL.2, rd, h4, h5]
    · have h4 : ¬((49 ≤ a ∧ a ≤ 57) ∧ 48 ≤ b ∧ b ≤ 57) := by omega
      have h5 : (decide (48 ≤ a) && decide (a ≤ 57)) = false := by simpa using h1
      simp [g_read_int, mkG, runD, b_read_int, start0, mkS_len, e, in_figs, hL.1, hL.2, rd, h4, h5]
  | a :: b :: c :: r, hl =>
    have h1 : ¬ ((r.length : Int) + 1 + 1 + 1 ≤ 2) := by omega
    have h2 : (1 : Int) ≤ (r.length : Int) + 1 + 1 + 1 := by omega
    simp at hl
    simp [g_read_int, mkG, runD, b_read_int, start0, mkS_len, rd, hl, h1, h2]
/-! ### a ratio -/
def rr2 : List Int → Res
  | [a, b] => if a ≠ 0 ∧ b ≠ 0 ∧ Int.gcd a b = 1 then .ok (.tuple [.int a, .int b]) else .exc "ParseError"
  | _ => .exc "ParseError"
def rr (l : List Nat) : Res := rr2 ((splC 58 l).map rd)
theorem small_ints {ns : List Int} {n : Nat} : dep (n + 1) (.list (ns.map PyData.int)) = true := by simp
theorem read_ratio_ok {l : List Nat} (hl : l.length < line) : g_read_ratio [.str (mkS l)] = some (rr l) := by
  have h1 := splC_len (c := 58) l
  have h2 : (splC 58 l).length ≤ line := by omega
  have hp : ∀ p ∈ splC 58 l, p.length ≤ line := fun p hp => by have := splC_part (c := 58) l p hp; omega
  have hc : compGo (.nm 2) (eC (.bool true)) (eFn g_read_int (elCons (eVarS 2) elNil)) [.dat (.str (mkS l)), .un, .un] ((splC 58 l).map fun p => .str (mkS p)) = some (((splC 58 l).map rd).map PyData.int) := by
    rw [comp_all (fun d => match d with | .str z => .int (rd z.cps.toList) | _ => .none) _ (by
      intro d hd
      obtain ⟨p, hp', rfl⟩ := List.mem_map.mp hd
      exact ⟨_, rfl, by simp [read_int_ok (hp p hp')]⟩)]
    simp
  have hr : ∀ x ∈ (splC 58 l).map rd, 0 ≤ x ∧ x < 100 := fun x hx => by
    obtain ⟨p, _, rfl⟩ := List.mem_map.mp hx
    exact rd_range p
  unfold rr
  unfold g_read_ratio mkG runD
  simp only [b_read_ratio, start0]
  simp [split_ok (c := 58) (by decide) (Nat.le_of_lt hl), h2, hc]
  rw [show (splC 58 l).map (PyData.int ∘ rd) = ((splC 58 l).map rd).map PyData.int by simp]
  have hlen : (splC 58 l).length = ((splC 58 l).map rd).length := by simp
  rw [hlen]
  generalize (splC 58 l).map rd = ns at hr
  match ns with
  | [] => simp [rr2]
  | [a] => simp [rr2]
  | [a, b] =>
    have ha := hr a (by simp)
    have hb := hr b (by simp)
    by_cases ea : a = 0
    · simp [rr2, ea]
    · by_cases eb : b = 0
      · simp [rr2, ea, eb]
      · have ea' : (a == 0) = false := by simpa using ea
        have eb' : (b == 0) = false := by simpa using eb
        have hd := divisor_ok (a := a) (b := b) ha.1 hb.1 (by omega)
        by_cases eg : Int.gcd a b = 1
        · simp [rr2, ea, eb, ea', eb', eg, hd]
        · have eg2 : ((Int.gcd a b : Int) == 1) = false := beq_false_of_ne (by omega)
          simp [rr2, ea, eb, ea', eb', eg, eg2, hd]
  | a :: b :: c :: r =>
    have : ((r.length : Int) + 1 + 1 + 1 == 2) = false := beq_false_of_ne (by omega)
    simp [rr2, this]
def rrow (l : List Nat) : Res := listR (seqR ((splC 32 l).map rr))
theorem seqR_len : ∀ {rs : List Res} {ds : List MP.D}, seqR rs = .ok ds → ds.length = rs.length
  | [], ds, h => by cases h; rfl
  | .exc c :: r, ds, h => by cases h
  | .ok d :: r, ds, h => by
    simp only [seqR] at h
    cases e : seqR r with
    | exc c => rw [e] at h; cases h
    | ok es => rw [e] at h; cases h; simp [seqR_len e]
theorem seqR_map {α : Type} (f : α → MP.D) : ∀ l : List α, seqR (l.map fun x => .ok (f x)) = .ok (l.map f)
  | [] => rfl
  | x :: l => by simp only [List.map_cons, seqR, seqR_map f l]
theorem seqR_get {α : Type} {f : α → Res} : ∀ {l : List α} {ds : List MP.D}, seqR (l.map f) = .ok ds → ∀ (i : Nat) (d : MP.D), ds[i]? = some d → ∃ x, l[i]? = some x ∧ f x = .ok d
  | [], ds, h, i, d, hd => by cases h; simp at hd
  | x :: l, ds, h, i, d, hd => by
    simp only [List.map_cons] at h
    cases e1 : f x with
    | exc c => rw [e1] at h; cases h
    | ok y =>
      rw [e1] at h
      simp only [seqR] at h
      cases e : seqR (l.map f) with
      | exc c => rw [e] at h; cases h
      | ok es =>
        rw [e] at h
        cases h
        cases i with
        | zero => simp at hd; subst hd; exact ⟨x, rfl, e1⟩
        | succ i => obtain ⟨z, h1, h2⟩ := seqR_get e i d (by simpa using hd); exact ⟨z, by simpa using h1, h2⟩
/-- the exception of a list of readings is a ParseError -/
theorem seqR_exc {α : Type} {f : α → Res} (hf : ∀ x c, f x = .exc c → c = "ParseError") : ∀ {l : List α} {c : Str}, seqR (l.map f) = .exc c → c = "ParseError"
  | [], c, h => by cases h
  | x :: l, c, h => by
    simp only [List.map_cons] at h
    cases e1 : f x with
    | exc c' => rw [e1] at h; cases h; exact hf x _ e1
    | ok y =>
      rw [e1] at h
      simp only [seqR] at h
      cases e : seqR (l.map f) with
      | exc c' => rw [e] at h; cases h; exact seqR_exc hf e
      | ok es => rw [e] at h; cases h
theorem rr_exc (l : List Nat) (c : Str) (h : rr l = .exc c) : c = "ParseError" := by
  unfold rr rr2 at h
  split at h
  · split at h
    · cases h
    · cases h; rfl
  · cases h; rfl
theorem rrow_exc (l : List Nat) (c : Str) (h : rrow l = .exc c) : c = "ParseError" := by
  unfold rrow listR at h
  split at h
  · cases h
  · rename_i c' e
    cases h
    exact seqR_exc rr_exc e
def lenD : MP.D → Nat
  | .list xs => xs.length
  | _ => 0
/-- rows of strings -/
def rowsD (ls : List (List Nat)) : MP.D := .list (ls.map fun l => .str (mkS l))
theorem rrow_list {l : List Nat} {d : MP.D} (h : rrow l = .ok d) : ∃ ds, d = .list ds ∧ ds.length = (splC 32 l).length := by
  unfold rrow listR at h
  split at h
  · rename_i ds e
    cases h
    exact ⟨ds, rfl, by rw [seqR_len e]; simp⟩
  · cases h
theorem row_val {ls : List (List Nat)} {a : Sl} (hl : ls.length ≤ 1000) (hp : ∀ l ∈ ls, l.length < 10000) :
    compXK [2] (.nm 2) (eC (.bool true)) (eCompX [3] (.nm 3) (iSeq (eMt "str" gSplit (eVar 2) (eC (.str " ")))) (eC (.bool true)) (eFn g_read_ratio (elCons (eVarS 3) elNil))) [.dat (rowsD ls), .un, .un, .un] (some (.ok (ls.map fun l => .str (mkS l)))) = some (listR (seqR (ls.map rrow))) := by
  have hL : line = 100000 := rfl
  rw [k_compX (fun d => match d with | .str z => rrow z.cps.toList | _ => .exc "") (by rw [List.length_map]; omega) (by
    intro d hd
    obtain ⟨l, hm, rfl⟩ := List.mem_map.mp hd
    have h1 := hp l hm
    have h2 := splC_len (c := 32) l
    refine ⟨_, rfl, ?_⟩
    simp [split_ok (c := 32) (l := l) (by decide) (by omega)]
    rw [k_compX (fun d => match d with | .str z => rr z.cps.toList | _ => .exc "") (by rw [List.length_map]; omega) (by
      intro d hd
      obtain ⟨p, hm2, rfl⟩ := List.mem_map.mp hd
      have h3 := splC_part (c := 32) l p hm2
      exact ⟨_, rfl, by simp [read_ratio_ok (l := p) (by omega)]⟩)]
    simp [rrow, Function.comp_def])]
  simp [Function.comp_def]
theorem read_chart_exc {ls : List (List Nat)} (hl : ls.length ≤ 1000) (hp : ∀ l ∈ ls, l.length < 10000) {c : Str} (h : seqR (ls.map rrow) = .exc c) : g_read_chart [rowsD ls] = some (.exc "ParseError") := by
  have hc := seqR_exc rrow_exc h
  subst hc
  have hL : line = 100000 := rfl
  have hl2 : ls.length ≤ line := by omega
  have hv := row_val (a := .un) hl hp
  rw [h, s_space] at hv
  have hA : compGo (.nm 2) (eC (.bool true)) (eOp1 (gIsi "str") (eVar 2)) [.dat (rowsD ls), .un, .un, .un] (ls.map fun l => .str (mkS l)) = some (ls.map fun _ => .bool true) := by
    rw [comp_all (fun _ => .bool true) _ (by
      intro d hd
      obtain ⟨l, hm, rfl⟩ := List.mem_map.mp hd
      exact ⟨_, rfl, by simp⟩)]
    simp [Function.comp_def]
  unfold g_read_chart mkG runD
  simp only [b_read_chart, start0]
  unfold rowsD at hv hA ⊢
  simp [hl2, hA, all_true, hv, listR]
theorem read_chart_okR {ls : List (List Nat)} (hl : ls.length ≤ 1000) (hp : ∀ l ∈ ls, l.length < 10000) {F : List MP.D} (h : seqR (ls.map rrow) = .ok F) (he : ∀ l ∈ ls, ∀ k ∈ ls, (splC 32 l).length = (splC 32 k).length) : g_read_chart [rowsD ls] = some (.ok (.list F)) := by
  have hL : line = 100000 := rfl
  have hl2 : ls.length ≤ line := by omega
  have hv := row_val (a := .un) hl hp
  rw [h, s_space] at hv
  have hF := seqR_len h
  rw [List.length_map] at hF
  have hA : compGo (.nm 2) (eC (.bool true)) (eOp1 (gIsi "str") (eVar 2)) [.dat (rowsD ls), .un, .un, .un] (ls.map fun l => .str (mkS l)) = some (ls.map fun _ => .bool true) := by
    rw [comp_all (fun _ => .bool true) _ (by
      intro d hd
      obtain ⟨l, hm, rfl⟩ := List.mem_map.mp hd
      exact ⟨_, rfl, by simp⟩)]
    simp [Function.comp_def]
  have hB : compGo (.nm 2) (eC (.bool true)) (eOp2 gEq (eFn (rB bLen) (elCons (eVar 2) elNil)) (eFn (rB bLen) (elCons (eOp2 gIdx (eVar 1) (eC (.int 0))) elNil))) [.dat (rowsD ls), .dat (.list F), .un, .un] F = some (F.map fun _ => .bool true) := by
    rw [comp_all (fun _ => .bool true) _ (by
      intro d hd
      obtain ⟨i, hi, rfl⟩ := List.mem_iff_getElem.mp hd
      obtain ⟨l, h1, h2⟩ := seqR_get h i F[i] (List.getElem?_eq_getElem hi)
      obtain ⟨ds, e1, e2⟩ := rrow_list h2
      obtain ⟨k, h3, h4⟩ := seqR_get h 0 F[0] (List.getElem?_eq_getElem (by omega))
      obtain ⟨es, e3, e4⟩ := rrow_list h4
      have e5 : ds.length = es.length := by rw [e2, e4]; exact he l (List.mem_of_getElem? h1) k (List.mem_of_getElem? h3)
      have e6 : atI F 0 = some (.list es) := by
        rw [← e3, atI_pos (by decide) (by omega)]
        exact List.getElem?_eq_getElem (by omega)
      exact ⟨_, rfl, by simp [e1, e6, e5]⟩)]
  have hF2 : F.length ≤ line := by omega
  unfold g_read_chart mkG runD
  simp only [b_read_chart, start0]
  unfold rowsD at hv hA hB ⊢
  simp [hl2, hA, all_true, hv, listR, hF2, hB]
end MP

set_option Elab.async false
set_option linter.all false
set_option maxRecDepth 100000
set_option maxHeartbeats 1000000
/-! charts -/
namespace MP
open PySem PySem.Spec PyProof.Rows L2
theorem sum_le {B : Nat} : ∀ ps : List (List Nat), (∀ p ∈ ps, p.length ≤ B) → (ps.map (·.length)).sum ≤ ps.length * B
  | [], _ => by simp
  | p :: ps, h => by
    have h1 := h p (by simp)
    have h2 := sum_le ps fun q hq => h q (List.mem_cons_of_mem _ hq)
    simp only [List.map_cons, List.sum_cons, List.length_cons, Nat.add_mul]
    omega
theorem join_few {c : Nat} {ps : List (List Nat)} (h : ps.length ≤ 100) (hs : ∀ p ∈ ps, p.length ≤ 100) : gJoin (.str (mkS [c])) (.list (ps.map fun p => .str (mkS p))) = some (.str (mkS (joinC c ps))) := by
  have h1 := sum_le ps hs
  have h2 := joinC_len (c := c) ps hs
  have h3 : ps.length * 100 ≤ 100 * 100 := Nat.mul_le_mul h (Nat.le_refl _)
  have h4 : ps.length * (100 + 1) ≤ 100 * 101 := Nat.mul_le_mul h (Nat.le_refl _)
  exact join_ok (by omega) (by omega)
/-- the text of a pair -/
def pairT : MP.D → List Nat
  | .tuple [.int a, .int b] => digs a.toNat ++ 58 :: digs b.toNat
  | _ => []
def okPair : MP.D → Prop
  | .tuple [.int a, .int b] => (0 ≤ a ∧ a < 100) ∧ 0 ≤ b ∧ b < 100
  | _ => False
theorem okPair_of {d : MP.D} (h : okPair d) : ∃ a b : Int, d = .tuple [.int a, .int b] ∧ (0 ≤ a ∧ a < 100) ∧ 0 ≤ b ∧ b < 100 := by
  unfold okPair at h
  split at h
  · exact ⟨_, _, rfl, h⟩
  · exact h.elim
theorem pairT_len {d : MP.D} : (pairT d).length ≤ 5 := by
  unfold pairT
  split
  · rename_i a b
    have h1 := digs_len a.toNat
    have h2 := digs_len b.toNat
    simp
    omega
  · simp
theorem add_colon {n : Nat} : gAdd (.str (mkS (digs n))) (.str (mkS [58])) = some (.str (mkS (digs n ++ [58]))) := by
  have h := digs_len n
  have hL : line = 100000 := rfl
  rw [o_addS, if_pos (by rw [mkS_len, mkS_len]; simp; omega), mkS_app]
theorem add_below {n k : Nat} : gAdd (.str (mkS (digs n ++ [58]))) (.str (mkS (digs k))) = some (.str (mkS (digs n ++ 58 :: digs k))) := by
  have h := digs_len n
  have h2 := digs_len k
  have hL : line = 100000 := rfl
  rw [o_addS, if_pos (by rw [mkS_len, mkS_len]; simp; omega), mkS_app]
  simp
theorem pair_at {i j : Nat} {m : En} {a b : Int} (hi : m[i]? = some (.dat (.int a))) (hj : m[j]? = some (.dat (.int b))) (ha : 0 ≤ a ∧ a < 100) (hb : 0 ≤ b ∧ b < 100) :
    (eOp2 gAdd (eOp2 gAdd (eFn (rB bStr) (elCons (eVar i) elNil)) (eC (.str ":"))) (eFn (rB bStr) (elCons (eVar j) elNil))) m = some (.ok (.str (mkS (pairT (.tuple [.int a, .int b]))))) := by
  simp only [x_op2, x_fn, x_elCons, x_var, hi, hj, k_var1, k_elA, x_elNil, k_elB, k_bndL, k_rB, bstr_ok ha.1 ha.2, bstr_ok hb.1 hb.2, k_ret, k_op2a, x_C, s_colon, k_op2b, add_colon, add_below]
  rfl
def ratT (a b : Int) : List Nat := pairT (redD a b)
def rowT (rs : List Int) (c : Int) : List Nat := joinC 32 (rs.map fun r => ratT r c)
theorem red_le {a b : Int} (ha : 0 < a) (hb : 0 < b) : (0 < a / (Int.gcd a b : Int) ∧ a / (Int.gcd a b : Int) ≤ a) ∧ 0 < b / (Int.gcd a b : Int) ∧ b / (Int.gcd a b : Int) ≤ b := by
  have hg := gcd_pos (a := a) hb
  refine ⟨⟨Int.ediv_pos_of_pos_of_dvd ha (by omega) (Int.gcd_dvd_left ..), Int.ediv_le_self _ (by omega)⟩, Int.ediv_pos_of_pos_of_dvd hb (by omega) (Int.gcd_dvd_right ..), Int.ediv_le_self _ (by omega)⟩
theorem red_pairOk {a b : Int} (ha : 0 < a ∧ a < 100) (hb : 0 < b ∧ b < 100) : okPair (redD a b) := by
  have h := red_le ha.1 hb.1
  show (0 ≤ a / (Int.gcd a b : Int) ∧ a / (Int.gcd a b : Int) < 100) ∧ 0 ≤ b / (Int.gcd a b : Int) ∧ b / (Int.gcd a b : Int) < 100
  omega
theorem chart_ok {rs cs : List Int} (h : Bike rs cs) : g_chart [bikeD rs cs] = some (.ok (rowsD (cs.map (rowT rs)))) := by
  obtain ⟨s1, s2⟩ := h.small
  have hL : line = 100000 := rfl
  have cb := check_bike_ok h
  unfold g_chart mkG runD
  simp only [b_chart, start0]
  have hn : (-1000000 : Int) ≤ (cs.length : Int) ∧ (cs.length : Int) ≤ 1000000 := by omega
  have hr : (-1000000 : Int) ≤ (rs.length : Int) ∧ (rs.length : Int) ≤ 1000000 := by omega
  simp [cb, hn]
  generalize hF : forGo _ _ _ _ = o
  obtain ⟨m1, rfl, x2, x3, rfl⟩ := for_of hF (fun done m => ∃ x2 x3, m = [.dat (bikeD rs cs), .own ((cs.take done.length).map fun c => .str (mkS (rowT rs c))), x2, x3, .un, .un, .un]) ⟨.un, .un, by simp⟩ (by
    rintro done d rest m' hd ⟨x2, x3, rfl⟩
    obtain ⟨rfl, hlt⟩ := irange_at hd
    have hj : done.length < cs.length := by simpa using hlt
    have hcomp : compGo (.nm 4) (eC (.bool true)) (eFn g_find_ratio (elCons (eVarS 0) (elCons (eFn mkT (elCons (eVarS 4) (elCons (eVarS 2) elNil))) elNil)))
        [.dat (bikeD rs cs), .own ((cs.take done.length).map fun c => .str (mkS (rowT rs c))), .dat (.int done.length), x3, .un, .un, .un] (irange 0 rs.length) = some (rs.map fun r => redD r (nth cs done.length)) := by
      rw [comp_all (fun d => match d with | .int i => redD (nth rs i) (nth cs done.length) | _ => .none) _ (by
        intro d hd
        obtain ⟨k, rfl, k0, k1⟩ := mem_irange hd
        refine ⟨_, rfl, ?_⟩
        have hg : Gear rs cs k done.length := ⟨k0, by omega, by omega, by omega⟩
        have fr := find_ratio_ok h hg
        unfold gearD at fr
        simp [fr])]
      congr 1
      apply List.ext_getElem?
      intro i
      by_cases hi : i < rs.length
      · rw [irange0]
        simp [hi, nth, atI_pos (xs := rs) (i := (i : Int)) (by omega) (by omega)]
      · rw [List.getElem?_eq_none (by simp; omega), List.getElem?_eq_none (by simp; omega)]
    have hc := (nth_ok (ts := cs) (i := done.length) (by omega) (by omega)).2
    have hcb := h.c.b _ hc
    have hrow : compGo (.tp [5, 6]) (eC (.bool true)) (eOp2 gAdd (eOp2 gAdd (eFn (rB bStr) (elCons (eVar 5) elNil)) (eC (.str ":"))) (eFn (rB bStr) (elCons (eVar 6) elNil)))
        [.dat (bikeD rs cs), .own ((cs.take done.length).map fun c => .str (mkS (rowT rs c))), .dat (.int done.length), .dat (.list (rs.map fun r => redD r (nth cs done.length))), .un, .un, .un] (rs.map fun r => redD r (nth cs done.length)) = some ((rs.map fun r => ratT r (nth cs done.length)).map fun p => .str (mkS p)) := by
      rw [comp_all (fun d => .str (mkS (pairT d))) _ (by
        intro d hd
        obtain ⟨r, hr', rfl⟩ := List.mem_map.mp hd
        have hrb := h.r.b r hr'
        obtain ⟨a, b, e, ha, hb⟩ := okPair_of (red_pairOk (a := r) (b := nth cs done.length) (by omega) (by omega))
        rw [e]
        exact ⟨_, rfl, pair_at rfl rfl ha hb⟩)]
      simp [ratT, Function.comp_def]
    have hj2 := join_few (c := 32) (ps := rs.map fun r => ratT r (nth cs done.length)) (by rw [List.length_map]; omega) (fun p hp => by
      obtain ⟨r, _, rfl⟩ := List.mem_map.mp hp
      have := pairT_len (d := redD r (nth cs done.length))
      unfold ratT
      omega)
    have hll : rs.length ≤ line := by omega
    have ht : ((cs.take done.length).map fun c => PyData.str (mkS (rowT rs c))).length < line := by simp; omega
    refine ⟨_, [.dat (bikeD rs cs), .own ((cs.take (done ++ [PyData.int (0 + (done.length : Int))]).length).map fun c => .str (mkS (rowT rs c))), .dat (.int done.length), .dat (.list (rs.map fun r => redD r (nth cs done.length))), .un, .un, .un], rfl, .inl ?_, _, _, rfl⟩
    have etake : (cs.take (done.length + 1)).map (fun c => PyData.str (mkS (rowT rs c))) = (cs.take done.length).map (fun c => .str (mkS (rowT rs c))) ++ [.str (mkS (rowT rs (nth cs done.length)))] := by
      rw [List.take_succ_eq_append_getElem hj, List.map_append]
      congr 1
      simp [nth, atI_pos (xs := cs) (i := (done.length : Int)) (by omega) (by omega), hj]
    rw [s_colon] at hrow
    rw [show (done ++ [PyData.int (0 + (done.length : Int))]).length = done.length + 1 by simp, etake]
    generalize (cs.take done.length).map (fun c => PyData.str (mkS (rowT rs c))) = T at hcomp hrow ht ⊢
    have hlR : (rs.map fun r => redD r (nth cs done.length)).length ≤ line := by rw [List.length_map]; exact hll
    generalize (rs.map fun r => redD r (nth cs done.length)) = R at hcomp hrow hlR ⊢
    unfold rowT
    generalize (rs.map fun r => ratT r (nth cs done.length)) = Q at hrow hj2 ⊢
    simp [hr, hcomp, hll, hlR, hrow, hj2, ht])
  clear hF
  simp [rowsD]
end MP

set_option Elab.async false
set_option linter.all false
set_option maxRecDepth 100000
set_option maxHeartbeats 1000000
/-! charts are read -/
namespace MP
open PySem PySem.Spec PyProof.Rows L2
theorem gcd_red {a b : Int} (hb : 0 < b) : Int.gcd (a / Int.gcd a b) (b / Int.gcd a b) = 1 := by
  have hg := gcd_pos (a := a) hb
  rw [Int.gcd_ediv (Int.gcd_dvd_left ..) (Int.gcd_dvd_right ..)]
  exact Nat.div_self (by omega)
theorem digs_not {n c : Nat} (h : n < 100) (hc : c < 48 ∨ 57 < c) : c ∉ digs n := fun hm => by
  have := digs_fig n h c hm
  omega
theorem rr_pair {a b : Int} (ha : 0 < a ∧ a < 100) (hb : 0 < b ∧ b < 100) (hg : Int.gcd a b = 1) : rr (digs a.toNat ++ 58 :: digs b.toNat) = .ok (.tuple [.int a, .int b]) := by
  unfold rr
  rw [splC_app (digs_not (by omega) (by omega)), splC_free (digs_not (by omega) (by omega))]
  simp only [List.map_cons, List.map_nil, rd_num (i := a) (by omega) (by omega), rd_num (i := b) (by omega) (by omega)]
  simp [rr2, hg]
  omega
theorem rr_rat {a b : Int} (ha : 0 < a ∧ a < 100) (hb : 0 < b ∧ b < 100) : rr (ratT a b) = .ok (redD a b) := by
  have h := red_le ha.1 hb.1
  exact rr_pair (a := a / Int.gcd a b) (b := b / Int.gcd a b) (by omega) (by omega) (gcd_red hb.1)
theorem pair_not {d : MP.D} (h : okPair d) {c : Nat} (hc : (c < 48 ∨ 57 < c) ∧ c ≠ 58) : c ∉ pairT d := by
  obtain ⟨a, b, rfl, ha, hb⟩ := okPair_of h
  show c ∉ digs a.toNat ++ 58 :: digs b.toNat
  simp only [List.mem_append, List.mem_cons, not_or]
  exact ⟨digs_not (by omega) hc.1, hc.2, digs_not (by omega) hc.1⟩
theorem row_split {rs : List Int} {c : Int} (hne : rs ≠ []) (hr : ∀ r ∈ rs, 0 < r ∧ r < 100) (hc : 0 < c ∧ c < 100) : splC 32 (rowT rs c) = rs.map fun r => ratT r c := by
  refine splC_join (by simpa using hne) fun p hp => ?_
  obtain ⟨r, h1, rfl⟩ := List.mem_map.mp hp
  exact pair_not (red_pairOk (hr r h1) hc) (by omega)
theorem rrow_row {rs : List Int} {c : Int} (hne : rs ≠ []) (hr : ∀ r ∈ rs, 0 < r ∧ r < 100) (hc : 0 < c ∧ c < 100) : rrow (rowT rs c) = .ok (.list (rs.map fun r => redD r c)) := by
  unfold rrow
  rw [row_split hne hr hc, List.map_map]
  have e : rs.map (rr ∘ fun r => ratT r c) = rs.map fun r => .ok (redD r c) := List.map_congr_left fun r h => rr_rat (hr r h) hc
  rw [e, seqR_map]
  rfl
theorem row_len {rs : List Int} {c : Int} : (rowT rs c).length ≤ rs.length * 6 := by
  have := joinC_len (c := 32) (B := 5) (rs.map fun r => ratT r c) fun p hp => by
    obtain ⟨r, _, rfl⟩ := List.mem_map.mp hp
    exact pairT_len
  unfold rowT
  simpa using this
theorem row_okC {rs : List Int} {c : Int} (hr : ∀ r ∈ rs, 0 < r ∧ r < 100) (hc : 0 < c ∧ c < 100) : okC (rowT rs c) := by
  refine okC_join (by decide) fun p hp => ?_
  obtain ⟨r, h1, rfl⟩ := List.mem_map.mp hp
  obtain ⟨a, b, e, ha, hb⟩ := okPair_of (red_pairOk (hr r h1) hc)
  unfold ratT
  rw [e]
  show okC (digs a.toNat ++ 58 :: digs b.toNat)
  refine okC_app (okC_digs (by omega)) fun x hx => ?_
  rcases List.mem_cons.mp hx with rfl | hx
  · decide
  · exact okC_digs (n := b.toNat) (by omega) x hx
section
variable {rs cs : List Int}
theorem Bike.rpos (h : Bike rs cs) : ∀ r ∈ rs, 0 < r ∧ r < 100 := fun r hr => by have := h.r.b r hr; omega
theorem Bike.cpos (h : Bike rs cs) : ∀ r ∈ cs, 0 < r ∧ r < 100 := fun r hr => by have := h.c.b r hr; omega
theorem Bike.rne (h : Bike rs cs) : rs ≠ [] := fun e => by have := h.r.l1; rw [e] at this; simp at this
theorem Bike.cne (h : Bike rs cs) : cs ≠ [] := fun e => by have := h.c.l1; rw [e] at this; simp at this
/-- the ratios, row by row -/
def ratRows (rs cs : List Int) : MP.D := .list (cs.map fun c => .list (rs.map fun r => redD r c))
theorem read_chart_ok (h : Bike rs cs) : g_read_chart [rowsD (cs.map (rowT rs))] = some (.ok (ratRows rs cs)) := by
  obtain ⟨s1, s2⟩ := h.small
  refine read_chart_okR (by rw [List.length_map]; omega) (fun l hl => ?_) ?_ (fun l hl k hk => ?_)
  · obtain ⟨c, _, rfl⟩ := List.mem_map.mp hl
    have := row_len (rs := rs) (c := c)
    omega
  · rw [List.map_map]
    have e : cs.map (rrow ∘ rowT rs) = cs.map fun c => .ok (.list (rs.map fun r => redD r c)) := List.map_congr_left fun c hc => rrow_row h.rne h.rpos (h.cpos c hc)
    rw [e, seqR_map]
  · obtain ⟨c, hc, rfl⟩ := List.mem_map.mp hl
    obtain ⟨d, hd, rfl⟩ := List.mem_map.mp hk
    rw [row_split h.rne h.rpos (h.cpos c hc), row_split h.rne h.rpos (h.cpos d hd)]
    simp
end
end MP

set_option Elab.async false
set_option linter.all false
set_option maxRecDepth 100000
namespace MP
open PySem PySem.Spec PyProof.Rows L2
def selJ (fe : EL) (m : En) : Option (List MP.D → Option Res) → Option Res
  | some g => bndL (fe m) g
  | none => none
def selK (gs : List (List MP.D → Option Res)) (fe : EL) (m : En) : Option Res → Option Res
  | some (.ok (.int n)) => selJ fe m (atI gs n)
  | some (.exc c) => some (.exc c)
  | _ => none
section
variable {gs : List (List MP.D → Option Res)} {g : List MP.D → Option Res} {fi : E} {fe : EL} {m : En} {n : Int} {c : Str} {xs : List MP.D}
@[simp] theorem x_sel : eSel gs fi fe m = selK gs fe m (fi m) := by
  unfold eSel selK bnd
  cases fi m with
  | none => rfl
  | some z => cases z with
    | exc c => rfl
    | ok d => cases d with
      | int n => dsimp only; unfold selJ; cases atI gs n <;> rfl
      | _ => rfl
@[simp] theorem k_sel : selK gs fe m (some (.ok (.int n))) = selJ fe m (atI gs n) := rfl
@[simp] theorem k_sele : selK gs fe m (some (.exc c)) = some (.exc c) := rfl
@[simp] theorem k_selJ : selJ fe m (some g) = bndL (fe m) g := rfl
def enumK : Option Res → Option ResL
  | some (.ok (.list xs)) => some (.ok (numbered xs))
  | some (.exc c) => some (.exc c)
  | _ => none
@[simp] theorem x_enum : iEnum' fi m = enumK (fi m) := rfl
@[simp] theorem k_enum : enumK (some (.ok (.list xs))) = some (.ok (numbered xs)) := rfl
/-! dicts -/
@[simp] theorem x_dnew {i : Nat} : sDNew i m = some (.nx (m.set i (.odc []))) := rfl
def putJ (i : Nat) (ds : List (MP.D × MP.D)) (d : MP.D) (m : En) : Option ResL → Option Out
  | some (.ok ks) => if allTup ds && ((keysOf ks).isSome && (decide (ks.length ≤ 1000) && decide (ds.length < line))) then some (.nx (m.set i (.odc (putT ds (.tuple ks) d)))) else none
  | _ => none
def putI (i : Nat) (fk : EL) (ds : List (MP.D × MP.D)) (m : En) : Option Res → Option Out
  | some (.ok d) => putJ i ds d m (fk m)
  | some (.exc c) => some (.exc c m)
  | none => none
def putS (i : Nat) (fk : EL) (fv : E) (m : En) : Option Sl → Option Out
  | some (.odc ds) => if allTup ds then putI i fk ds m (fv m) else none
  | _ => none
@[simp] theorem x_dput {i : Nat} {fk : EL} {fv : E} : sDPutT i fk fv m = putS i fk fv m m[i]? := by
  unfold sDPutT putS
  cases m[i]? with
  | none => rfl
  | some z => cases z with
    | odc ds =>
      dsimp only
      by_cases h : allTup ds = true
      · rw [if_pos h, if_pos h]
        unfold bndS putI
        cases fv m with
        | none => rfl
        | some z => cases z with
          | exc c => rfl
          | ok d =>
            dsimp only
            unfold putJ
            cases fk m with
            | none => rfl
            | some z => cases z <;> rfl
      · rw [if_neg h, if_neg h]
    | _ => rfl
@[simp] theorem k_putS {i : Nat} {fk : EL} {fv : E} {ds : List (MP.D × MP.D)} : putS i fk fv m (some (.odc ds)) = if allTup ds then putI i fk ds m (fv m) else none := rfl
@[simp] theorem k_putI {i : Nat} {fk : EL} {ds : List (MP.D × MP.D)} {d : MP.D} : putI i fk ds m (some (.ok d)) = putJ i ds d m (fk m) := rfl
@[simp] theorem k_putJ {i : Nat} {ds : List (MP.D × MP.D)} {d : MP.D} {ks : List MP.D} : putJ i ds d m (some (.ok ks)) = if allTup ds && ((keysOf ks).isSome && (decide (ks.length ≤ 1000) && decide (ds.length < line))) then some (.nx (m.set i (.odc (putT ds (.tuple ks) d)))) else none := rfl
def lckK (i : Nat) (f : S) (m : En) : Option Sl → Option Out
  | some (.odc ds) => f (m.set i (.dat (.dict ds)))
  | _ => none
@[simp] theorem x_lck {i : Nat} {f : S} : sLck i f m = lckK i f m m[i]? := rfl
@[simp] theorem k_lck {i : Nat} {f : S} {ds : List (MP.D × MP.D)} : lckK i f m (some (.odc ds)) = f (m.set i (.dat (.dict ds))) := rfl
def keysK : Option Res → Option ResL
  | some (.ok (.dict ds)) => some (.ok (keysD ds))
  | some (.exc c) => some (.exc c)
  | _ => none
@[simp] theorem x_keys : iKeysD fi m = keysK (fi m) := rfl
@[simp] theorem k_keys {ds : List (MP.D × MP.D)} : keysK (some (.ok (.dict ds))) = some (.ok (keysD ds)) := rfl
@[simp] theorem o_rg1 : gRg1 (.int n) = if -1000 ≤ n ∧ n ≤ 1000 then some (.list (irange 0 n.toNat)) else none := rfl
@[simp] theorem o_rg2 {k : Int} : gRg2 (.int n) (.int k) = if (-1000 ≤ n ∧ n ≤ 1000) ∧ -1000 ≤ k ∧ k ≤ 1000 then some (.tuple (irange n (k - n).toNat)) else none := rfl
/-! x.extend(..) -/
def extJ (i : Nat) (ds : List MP.D) (m : En) : Option Res → Option Out
  | some (.ok (.list es)) => if ds.length + es.length < line then some (.nx (m.set i (.own (ds ++ es)))) else none
  | some (.exc c) => some (.exc c m)
  | _ => none
def extK (i : Nat) (f : E) (m : En) : Option Sl → Option Out
  | some (.own ds) => extJ i ds m (f m)
  | _ => none
@[simp] theorem x_ext {i : Nat} : sExt i fi m = extK i fi m m[i]? := by
  unfold sExt extK
  cases m[i]? with
  | none => rfl
  | some z => cases z with
    | own ds =>
      dsimp only
      unfold bndS extJ
      cases fi m with
      | none => rfl
      | some z => cases z with
        | exc c => rfl
        | ok d => cases d <;> rfl
    | _ => rfl
@[simp] theorem k_extK {i : Nat} {ds : List MP.D} : extK i fi m (some (.own ds)) = extJ i ds m (fi m) := rfl
@[simp] theorem k_extJ {i : Nat} {ds es : List MP.D} : extJ i ds m (some (.ok (.list es))) = if ds.length + es.length < line then some (.nx (m.set i (.own (ds ++ es)))) else none := rfl
@[simp] theorem o_isB {a b : Bool} : gIsB (.bool a) (.bool b) = some (.bool (a == b)) := rfl
@[simp] theorem o_isNotB {a b : Bool} : gIsNotB (.bool a) (.bool b) = some (.bool (!(a == b))) := rfl
end
end MP

set_option Elab.async false
set_option linter.all false
set_option maxRecDepth 100000
set_option maxHeartbeats 1000000
namespace MP
open PySem PySem.Spec PyProof.Rows L2
--CUT
section
variable {rs cs : List Int}
/-! ### formats -/
def teethT (ts : List Int) : List Nat := joinC 45 (ts.map fun t => digs t.toNat)
def bikeT (rs cs : List Int) : List Nat := teethT rs ++ 47 :: teethT cs
theorem teeth_comp {i : Nat} {m : En} {ts : List Int} (hi : i < m.length) (h : ∀ t ∈ ts, 0 < t ∧ t < 100) : compGo (.nm i) (eC (.bool true)) (eFn (rB bStr) (elCons (eVar i) elNil)) m (ts.map PyData.int) = some ((ts.map fun t => digs t.toNat).map fun p => .str (mkS p)) := by
  rw [comp_all (fun d => match d with | .int t => .str (mkS (digs t.toNat)) | _ => .none) _ (by
    intro d hd
    obtain ⟨t, ht, rfl⟩ := List.mem_map.mp hd
    have hb := h t ht
    exact ⟨_, rfl, by simp [hi, bstr_ok (i := t) (by omega) (by omega)]⟩)]
  simp
theorem teeth_join {ts : List Int} (hl : ts.length ≤ 100) : gJoin (.str (mkS [45])) (.list ((ts.map fun t => digs t.toNat).map fun p => .str (mkS p))) = some (.str (mkS (teethT ts))) :=
  join_few (by rw [List.length_map]; exact hl) fun p hp => by
    obtain ⟨t, _, rfl⟩ := List.mem_map.mp hp
    have := digs_len t.toNat
    omega
theorem teethT_len {ts : List Int} : (teethT ts).length ≤ ts.length * 3 := by
  have := joinC_len (c := 45) (B := 2) (ts.map fun t => digs t.toNat) fun p hp => by
    obtain ⟨t, _, rfl⟩ := List.mem_map.mp hp
    exact digs_len t.toNat
  unfold teethT
  simpa using this
theorem bikeT_len (h : Bike rs cs) : (bikeT rs cs).length ≤ 40 := by
  obtain ⟨s1, s2⟩ := h.small
  have h1 := teethT_len (ts := rs)
  have h2 := teethT_len (ts := cs)
  unfold bikeT
  simp
  omega
theorem text_ok (h : Bike rs cs) : g__law_text [bikeD rs cs] = some (.ok (.str (mkS (bikeT rs cs)))) := by
  obtain ⟨s1, s2⟩ := h.small
  have hL : line = 100000 := rfl
  have h1 : rs.length ≤ line := by omega
  have h2 : cs.length ≤ line := by omega
  have e1 := teeth_comp (i := 1) (m := [.dat (bikeD rs cs), .un]) (ts := rs) (by simp) h.rpos
  have e2 := teeth_comp (i := 1) (m := [.dat (bikeD rs cs), .un]) (ts := cs) (by simp) h.cpos
  have j1 := teeth_join (ts := rs) (by omega)
  have j2 := teeth_join (ts := cs) (by omega)
  have l1 := teethT_len (ts := rs)
  have l2 := teethT_len (ts := cs)
  generalize (rs.map fun t => digs t.toNat) = R at e1 j1
  generalize (cs.map fun t => digs t.toNat) = Q at e2 j2
  have a1 : gAdd (.str (mkS (teethT rs))) (.str (mkS [47])) = some (.str (mkS (teethT rs ++ [47]))) := by
    rw [o_addS, if_pos (by rw [mkS_len, mkS_len]; simp; omega), mkS_app]
  have a2 : gAdd (.str (mkS (teethT rs ++ [47]))) (.str (mkS (teethT cs))) = some (.str (mkS (bikeT rs cs))) := by
    rw [o_addS, if_pos (by rw [mkS_len, mkS_len]; simp; omega), mkS_app]
    simp [bikeT]
  simp [g__law_text, mkG, runD, b__law_text, start0, teethD, h1, h2, e1, e2, j1, j2, a1, a2, -o_addS]
theorem join_bike_ok (h : Bike rs cs) : g_join_bike [bikeD rs cs] = some (.ok (.str (mkS (bikeT rs cs)))) := by
  obtain ⟨s1, s2⟩ := h.small
  have hL : line = 100000 := rfl
  have h1 : rs.length ≤ line := by omega
  have h2 : cs.length ≤ line := by omega
  have e1 := teeth_comp (i := 2) (m := [.dat (bikeD rs cs), .dat (teethD rs), .un]) (ts := rs) (by simp) h.rpos
  have e2 := teeth_comp (i := 2) (m := [.dat (bikeD rs cs), .dat (teethD cs), .un]) (ts := cs) (by simp) h.cpos
  have j1 := teeth_join (ts := rs) (by omega)
  have j2 := teeth_join (ts := cs) (by omega)
  have l1 := teethT_len (ts := rs)
  have l2 := teethT_len (ts := cs)
  generalize (rs.map fun t => digs t.toNat) = R at e1 j1
  generalize (cs.map fun t => digs t.toNat) = Q at e2 j2
  have j3 : gJoin (.str (mkS [47])) (.list [.str (mkS (teethT rs)), .str (mkS (teethT cs))]) = some (.str (mkS (bikeT rs cs))) :=
    join_few (c := 47) (ps := [teethT rs, teethT cs]) (by simp) (fun p hp => by simp at hp; rcases hp with rfl | rfl <;> omega)
  have h3 : 2 ≤ line := by decide
  unfold bikeD teethD at *
  simp [g_join_bike, mkG, runD, b_join_bike, start0, h1, h2, h3, e1, e2, j1, j2, j3]
theorem format_ok (h : Bike rs cs) : g_format_bike [bikeD rs cs] = some (.ok (.str (mkS (bikeT rs cs)))) := by
  simp [g_format_bike, mkG, runD, b_format_bike, start0, check_bike_ok h, join_bike_ok h]
/-! ### are_teeth, decided -/
theorem bools_map {α : Type} (f : α → Bool) (l : List α) : bAll [.list (l.map fun x => .bool (f x))] = some (.bool (l.all f)) := by
  have e : l.map (fun x => PyData.bool (f x)) = (l.map f).map PyData.bool := by simp
  rw [e]
  show (boolsD ((l.map f).map PyData.bool)).map (fun bs => PyData.bool (bs.all id)) = _
  rw [boolsD_map]
  simp [Function.comp_def]
theorem asc_of : ∀ {ts : List Int}, ((ts.zip (ts.drop 1)).all fun z => decide (z.1 < z.2)) = true → ts.Pairwise (· < ·)
  | [], _ => .nil
  | [x], _ => List.pairwise_singleton _ _
  | x :: y :: r, h => by
    simp only [List.drop_succ_cons, List.drop_zero, List.zip_cons_cons, List.all_cons, Bool.and_eq_true] at h
    have h2 := asc_of (ts := y :: r) (by simpa using h.2)
    have hxy : x < y := of_decide_eq_true h.1
    refine List.pairwise_cons.mpr ⟨fun z hz => ?_, h2⟩
    rcases List.mem_cons.mp hz with rfl | hz
    · exact hxy
    · exact Int.lt_trans hxy ((List.pairwise_cons.mp h2).1 z hz)
theorem teeth_dec {ts : List Int} {most least greatest : Int} (hl : ts.length ≤ line) : ∃ b, g_are_teeth [teethD ts, .int most, .int least, .int greatest] = some (.ok (.bool b)) ∧ (b = true → Teeth ts most least greatest) := by
  by_cases h1 : 1 ≤ ts.length
  · by_cases h2 : (ts.length : Int) ≤ most
    · have l1 : (1 : Int) ≤ ts.length := by omega
      have e1 : compGo (.nm 4) (eC (.bool true)) (eFn g_is_int (elCons (eVarS 4) (elCons (eVarS 2) (elCons (eVarS 3) elNil)))) [.dat (teethD ts), .dat (.int most), .dat (.int least), .dat (.int greatest), .un, .un, .un] (ts.map PyData.int) = some (ts.map fun t => .bool (decide (least ≤ t) && decide (t ≤ greatest))) := by
        rw [comp_all (fun d => match d with | .int t => .bool (decide (least ≤ t) && decide (t ≤ greatest)) | _ => .none) _ (by
          intro d hd
          obtain ⟨t, ht, rfl⟩ := List.mem_map.mp hd
          exact ⟨_, rfl, by simp⟩)]
        simp
      have e2 : compGo (.tp [5, 6]) (eC (.bool true)) (eOp2 gLt (eVar 5) (eVar 6)) [.dat (teethD ts), .dat (.int most), .dat (.int least), .dat (.int greatest), .un, .un, .un] (pairs (ts.map PyData.int) (cut (ts.map PyData.int) (some 1) none)) = some ((ts.zip (ts.drop 1)).map fun z => .bool (decide (z.1 < z.2))) := by
        rw [cut_one]
        have e3 : pairs (ts.map PyData.int) ((ts.map PyData.int).drop 1) = (ts.zip (ts.drop 1)).map fun z => .tuple [.int z.1, .int z.2] := by
          unfold pairs
          rw [← List.map_drop, List.zip_map]
          simp
        rw [e3, comp_all (fun d => match d with | .tuple [.int a, .int b] => .bool (decide (a < b)) | _ => .none) _ (by
          intro d hd
          obtain ⟨z, hz, rfl⟩ := List.mem_map.mp hd
          exact ⟨_, by simp; rfl, by simp⟩)]
        simp
      have hp : (pairs (ts.map PyData.int) (cut (ts.map PyData.int) (some 1) none)).length ≤ line := by
        rw [cut_one]
        unfold pairs
        simp
        omega
      unfold teethD at *
      have b1 := bools_map (fun t : Int => decide (least ≤ t) && decide (t ≤ greatest)) ts
      have b2 := bools_map (fun z : Int × Int => decide (z.1 < z.2)) (ts.zip (ts.drop 1))
      generalize hE : (ts.map fun t => PyData.bool (decide (least ≤ t) && decide (t ≤ greatest))) = E1 at e1 b1
      generalize hE2 : ((ts.zip (ts.drop 1)).map fun z => PyData.bool (decide (z.1 < z.2))) = E2 at e2 b2
      cases hA : ts.all fun t => decide (least ≤ t) && decide (t ≤ greatest) with
      | false =>
        rw [hA] at b1
        exact ⟨false, by simp [g_are_teeth, mkG, runD, b_are_teeth, start0, l1, h2, hl, e1, b1], nofun⟩
      | true =>
        rw [hA] at b1
        refine ⟨_, by simp [g_are_teeth, mkG, runD, b_are_teeth, start0, l1, h2, hl, e1, b1, e2, b2, hp], fun hb => ⟨h1, h2, fun t ht => ?_, asc_of hb⟩⟩
        have := List.all_eq_true.mp hA t ht
        simpa using this
    · have l1 : (1 : Int) ≤ ts.length := by omega
      exact ⟨false, by simp [g_are_teeth, mkG, runD, b_are_teeth, start0, teethD, l1, h2], nofun⟩
  · have l1 : ¬ (1 : Int) ≤ ts.length := by omega
    exact ⟨false, by simp [g_are_teeth, mkG, runD, b_are_teeth, start0, teethD, l1], nofun⟩
theorem bike_dec {ls : List (List Int)} (hl : ∀ l ∈ ls, l.length ≤ line) : ∃ b, g_is_bike [.tuple (ls.map teethD)] = some (.ok (.bool b)) ∧ (b = true → ∃ rs cs, ls = [rs, cs] ∧ Bike rs cs) := by
  match ls, hl with
  | [rs, cs], hl =>
    obtain ⟨b1, h1, k1⟩ := teeth_dec (ts := rs) (most := 3) (least := 10) (greatest := 60) (hl rs (by simp))
    obtain ⟨b2, h2, k2⟩ := teeth_dec (ts := cs) (most := 8) (least := 8) (greatest := 50) (hl cs (by simp))
    cases b1 with
    | false => exact ⟨false, is_bike_rings (rings_of h1), nofun⟩
    | true =>
      cases b2 with
      | false => exact ⟨false, is_bike_cogs (rings_of h1) (cogs_of h2), nofun⟩
      | true => exact ⟨true, is_bike_ok ⟨k1 rfl, k2 rfl⟩, fun _ => ⟨rs, cs, rfl, ⟨k1 rfl, k2 rfl⟩⟩⟩
  | [], _ => exact ⟨false, is_bike_len (by simp), nofun⟩
  | [a], _ => exact ⟨false, is_bike_len (by simp), nofun⟩
  | a :: b :: c :: r, _ => exact ⟨false, is_bike_len (by simp), nofun⟩
/-! ### parse_bike -/
theorem parse_core {l : List Nat} (hl : l.length < 10000) : (∃ rs cs, g_parse_bike [.str (mkS l)] = some (.ok (bikeD rs cs)) ∧ Bike rs cs ∧ ((splC 47 l).map fun s => (splC 45 s).map rd) = [rs, cs]) ∨
    (g_parse_bike [.str (mkS l)] = some (.exc "ParseError") ∧ ¬ ∃ rs cs, Bike rs cs ∧ ((splC 47 l).map fun s => (splC 45 s).map rd) = [rs, cs]) := by
  have hL : line = 100000 := rfl
  have h1 := splC_len (c := 47) l
  have h2 : (splC 47 l).length ≤ line := by omega
  have hs : ∀ s ∈ splC 47 l, s.length ≤ l.length ∧ (splC 45 s).length ≤ l.length + 1 := fun s hs => by
    have a := splC_part (c := 47) l s hs
    have b := splC_len (c := 45) s
    omega
  have hl2 : l.length ≤ line := by omega
  have e1 : compGo (.nm 2) (eC (.bool true)) (eFn (rB bTuple) (elCons (eComp [3] (.nm 3) (iSeq (eMt "str" gSplit (eVar 2) (eC (.str "-")))) (eC (.bool true)) (eFn g_read_int (elCons (eVarS 3) elNil))) elNil)) [.dat (.str (mkS l)), .un, .un, .un] ((splC 47 l).map fun p => .str (mkS p)) = some (((splC 47 l).map fun s => (splC 45 s).map rd).map teethD) := by
    rw [comp_all (fun d => match d with | .str z => teethD ((splC 45 z.cps.toList).map rd) | _ => .none) _ (by
      intro d hd
      obtain ⟨s, hm, rfl⟩ := List.mem_map.mp hd
      have hb := hs s hm
      have hb2 : (splC 45 s).length ≤ line := by omega
      refine ⟨_, rfl, ?_⟩
      have e2 : compGo (.nm 3) (eC (.bool true)) (eFn g_read_int (elCons (eVarS 3) elNil)) [.dat (.str (mkS l)), .un, .dat (.str (mkS s)), .un] ((splC 45 s).map fun p => .str (mkS p)) = some (((splC 45 s).map rd).map PyData.int) := by
        rw [comp_all (fun d => match d with | .str z => .int (rd z.cps.toList) | _ => .none) _ (by
          intro d hd
          obtain ⟨p, hp', rfl⟩ := List.mem_map.mp hd
          have := splC_part (c := 45) s p hp'
          exact ⟨_, rfl, by simp [read_int_ok (l := p) (by omega)]⟩)]
        simp
      have e3 : teethD ((splC 45 s).map rd) = .tuple (((splC 45 s).map rd).map PyData.int) := rfl
      show _ = some (Res.ok (teethD ((splC 45 s).map rd)))
      rw [e3]
      generalize ((splC 45 s).map rd).map PyData.int = T at e2 ⊢
      simp [split_ok (c := 45) (l := s) (by decide) (by omega), hb2, e2])]
    simp
  obtain ⟨b, hb, hk⟩ := bike_dec (ls := (splC 47 l).map fun s => (splC 45 s).map rd) (fun x hx => by
    obtain ⟨s, hm, rfl⟩ := List.mem_map.mp hx
    have := hs s hm
    rw [List.length_map]
    omega)
  cases b with
  | true =>
    obtain ⟨rs, cs, e, hB⟩ := hk rfl
    refine .inl ⟨rs, cs, ?_, hB, e⟩
    rw [e] at e1 hb
    rw [s_dash] at e1
    have hb' : g_is_bike [.tuple [teethD rs, teethD cs]] = some (.ok (.bool true)) := hb
    simp [g_parse_bike, mkG, runD, b_parse_bike, start0, split_ok (c := 47) (l := l) (by decide) hl2, h2, e1, hb', bikeD]
  | false =>
    refine .inr ⟨?_, fun ⟨rs, cs, hB, e⟩ => ?_⟩
    · rw [s_dash] at e1
      generalize ((splC 47 l).map fun s => (splC 45 s).map rd).map teethD = T at e1 hb
      simp [g_parse_bike, mkG, runD, b_parse_bike, start0, split_ok (c := 47) (l := l) (by decide) hl2, h2, e1, hb]
    · rw [e] at hb
      have := is_bike_ok hB
      rw [show g_is_bike [bikeD rs cs] = some (.ok (.bool false)) from hb] at this
      cases this
theorem teeth_back {s : List Nat} {ts : List Int} (h : (splC 45 s).map rd = ts) (hp : ∀ t ∈ ts, 0 < t ∧ t < 100) : teethT ts = s := by
  unfold teethT
  rw [← h, List.map_map]
  have e : (splC 45 s).map ((fun t => digs t.toNat) ∘ rd) = splC 45 s := by
    conv => rhs; rw [← List.map_id (splC 45 s)]
    refine List.map_congr_left fun p hm => ?_
    have := hp (rd p) (by rw [← h]; exact List.mem_map_of_mem hm)
    exact digs_rd (by omega)
  rw [e, join_splC]
theorem bike_back {l : List Nat} (hB : Bike rs cs) (h : ((splC 47 l).map fun s => (splC 45 s).map rd) = [rs, cs]) : bikeT rs cs = l := by
  cases e : splC 47 l with
  | nil => rw [e] at h; cases h
  | cons a r =>
    cases r with
    | nil => rw [e] at h; cases h
    | cons b r =>
      cases r with
      | cons c r => rw [e] at h; simp at h
      | nil =>
        rw [e] at h
        simp only [List.map_cons, List.map_nil, List.cons.injEq, and_true] at h
        have h1 := teeth_back h.1 hB.rpos
        have h2 := teeth_back h.2 hB.cpos
        have h3 := join_splC (c := 47) l
        rw [e] at h3
        unfold bikeT
        rw [h1, h2]
        exact h3
theorem teeth_split {ts : List Int} (hne : ts ≠ []) (hp : ∀ t ∈ ts, 0 < t ∧ t < 100) : (splC 45 (teethT ts)).map rd = ts ∧ 47 ∉ teethT ts := by
  have h0 : ∀ c, (c < 48 ∨ 57 < c) → ∀ p ∈ ts.map (fun t => digs t.toNat), c ∉ p := fun c hc p hm => by
    obtain ⟨t, ht, rfl⟩ := List.mem_map.mp hm
    have := hp t ht
    exact digs_not (by omega) hc
  refine ⟨?_, joinC_not (by decide) (h0 47 (by omega))⟩
  unfold teethT
  rw [splC_join (by simpa using hne) (h0 45 (by omega)), List.map_map]
  conv => rhs; rw [← List.map_id ts]
  refine List.map_congr_left fun t ht => ?_
  have := hp t ht
  exact rd_num (i := t) (by omega) (by omega)
theorem parse_ok (hB : Bike rs cs) : g_parse_bike [.str (mkS (bikeT rs cs))] = some (.ok (bikeD rs cs)) := by
  have hl := bikeT_len hB
  have hr := teeth_split hB.rne hB.rpos
  have hc := teeth_split hB.cne hB.cpos
  have e : ((splC 47 (bikeT rs cs)).map fun s => (splC 45 s).map rd) = [rs, cs] := by
    unfold bikeT
    rw [splC_app hr.2, splC_free hc.2]
    simp [hr.1, hc.1]
  rcases parse_core (l := bikeT rs cs) (by omega) with ⟨r, c, h1, h2, h3⟩ | ⟨_, h⟩
  · rw [e] at h3
    cases h3
    exact h1
  · exact absurd ⟨rs, cs, hB, e⟩ h
end
section
variable {rs cs : List Int}
theorem law_row_ok {ds : List MP.D} (hl : ds.length ≤ 100) (hp : ∀ d ∈ ds, okPair d) : g__law_row [.list ds] = some (.ok (.str (mkS (joinC 32 (ds.map pairT))))) := by
  have hL : line = 100000 := rfl
  have h1 : ds.length ≤ line := by omega
  have e : compGo (.tp [1, 2]) (eC (.bool true)) (eOp2 gAdd (eOp2 gAdd (eFn (rB bStr) (elCons (eVar 1) elNil)) (eC (.str ":"))) (eFn (rB bStr) (elCons (eVar 2) elNil))) [.dat (.list ds), .un, .un] ds = some ((ds.map pairT).map fun p => .str (mkS p)) := by
    rw [comp_all (fun d => .str (mkS (pairT d))) _ (by
      intro d hd
      obtain ⟨a, b, rfl, ha, hb⟩ := okPair_of (hp d hd)
      exact ⟨_, rfl, pair_at rfl rfl ha hb⟩)]
    simp [Function.comp_def]
  have j := join_few (c := 32) (ps := ds.map pairT) (by rw [List.length_map]; exact hl) (fun p hm => by
    obtain ⟨d, _, rfl⟩ := List.mem_map.mp hm
    have := pairT_len (d := d)
    omega)
  rw [s_colon] at e
  generalize ds.map pairT = Q at e j ⊢
  simp [g__law_row, mkG, runD, b__law_row, start0, h1, e, j]
theorem law_row_red {c : Int} (hl : rs.length ≤ 100) (hr : ∀ r ∈ rs, 0 < r ∧ r < 100) (hc : 0 < c ∧ c < 100) : g__law_row [.list (rs.map fun r => redD r c)] = some (.ok (.str (mkS (rowT rs c)))) := by
  rw [law_row_ok (by rw [List.length_map]; exact hl) (fun d hd => by
    obtain ⟨r, h1, rfl⟩ := List.mem_map.mp hd
    exact red_pairOk (hr r h1) hc)]
  simp [rowT, ratT, Function.comp_def]
/-- a row that is read is written as it was -/
theorem rr_back {p : List Nat} {d : MP.D} (h : rr p = .ok d) : okPair d ∧ pairT d = p := by
  have h3 := join_splC (c := 58) p
  unfold rr at h
  cases e : splC 58 p with
  | nil => rw [e] at h; cases h
  | cons a r =>
    cases r with
    | nil => rw [e] at h; cases h
    | cons b r =>
      cases r with
      | cons c r => rw [e] at h; cases h
      | nil =>
        rw [e] at h h3
        simp only [List.map_cons, List.map_nil, rr2] at h
        have ra := rd_range a
        have rb := rd_range b
        by_cases hh : rd a ≠ 0 ∧ rd b ≠ 0 ∧ Int.gcd (rd a) (rd b) = 1
        · rw [if_pos hh] at h
          cases h
          refine ⟨⟨ra, rb⟩, ?_⟩
          show digs (rd a).toNat ++ 58 :: digs (rd b).toNat = p
          rw [digs_rd hh.1, digs_rd hh.2.1]
          exact h3
        · rw [if_neg hh] at h
          cases h
theorem seq_back : ∀ {ps : List (List Nat)} {ds : List MP.D}, seqR (ps.map rr) = .ok ds → (∀ d ∈ ds, okPair d) ∧ ds.map pairT = ps
  | [], ds, h => by cases h; simp
  | p :: ps, ds, h => by
    simp only [List.map_cons] at h
    cases e1 : rr p with
    | exc c => rw [e1] at h; cases h
    | ok y =>
      rw [e1] at h
      simp only [seqR] at h
      cases e : seqR (ps.map rr) with
      | exc c => rw [e] at h; cases h
      | ok es =>
        rw [e] at h
        cases h
        obtain ⟨h1, h2⟩ := rr_back e1
        obtain ⟨h3, h4⟩ := seq_back e
        refine ⟨fun d hd => ?_, by simp [h2, h4]⟩
        rcases List.mem_cons.mp hd with rfl | hd
        · exact h1
        · exact h3 d hd
/-! ### _law_again -/
theorem again_bike {l : List Nat} (hl : l.length < 10000) : g__law_again [.int 0, .str (mkS l)] = some (.ok .none) ∨ g__law_again [.int 0, .str (mkS l)] = some (.ok (.str (mkS l))) := by
  rcases parse_core (l := l) hl with ⟨r, c, h1, h2, h3⟩ | ⟨h1, _⟩
  · right
    have ht := text_ok h2
    rw [bike_back h2 h3] at ht
    simp [g__law_again, mkG, runD, b__law_again, start0, h1, ht]
  · left
    simp [g__law_again, mkG, runD, b__law_again, start0, h1, clL]
theorem again_row {l : List Nat} (hl : l.length < 90) : g__law_again [.int 1, .list [.str (mkS l)]] = some (.ok .none) ∨ g__law_again [.int 1, .list [.str (mkS l)]] = some (.ok (.list [.str (mkS l)])) := by
  have hs := splC_len (c := 32) l
  cases e : seqR ([l].map rrow) with
  | exc c =>
    left
    have h1 := read_chart_exc (ls := [l]) (by simp) (fun x hx => by simp at hx; subst hx; omega) e
    unfold rowsD at h1
    simp only [List.map_cons, List.map_nil] at h1
    simp [g__law_again, mkG, runD, b__law_again, start0, h1, clL]
  | ok F =>
    right
    have h1 := read_chart_okR (ls := [l]) (by simp) (fun x hx => by simp at hx; subst hx; omega) e (fun a ha b hb => by simp at ha hb; rw [ha, hb])
    unfold rowsD at h1
    simp only [List.map_cons, List.map_nil] at h1 e
    have e' : ∃ ds, seqR ((splC 32 l).map rr) = .ok ds ∧ F = [.list ds] := by
      unfold rrow at e
      cases e2 : seqR ((splC 32 l).map rr) with
      | exc c => rw [e2] at e; cases e
      | ok ds => rw [e2] at e; cases e; exact ⟨ds, rfl, rfl⟩
    obtain ⟨ds, e2, rfl⟩ := e'
    obtain ⟨h2, h3⟩ := seq_back e2
    have hlen : ds.length ≤ 100 := by
      rw [seqR_len e2, List.length_map]
      omega
    have hw := law_row_ok hlen h2
    rw [h3, join_splC] at hw
    have hL1 : 1 ≤ line := by decide
    simp [g__law_again, mkG, runD, b__law_again, start0, h1, hw, hL1]
theorem rejected_ok : g__law_rejected [] = some (.ok (.bool true)) := by
  kernel_rfl
end
section
variable {rs cs : List Int}
theorem refused_bike {d : MP.D} (h : g_is_bike [d] = some (.ok (.bool false))) : g__law_refused [.int 0, d] = some (.ok (.bool true)) ∧ g__law_refused [.int 1, d] = some (.ok (.bool true)) := by
  have hb := check_bike_no h
  constructor
  · simp [g__law_refused, mkG, runD, b__law_refused, start0, g_format_bike, b_format_bike, hb, clL]
  · simp [g__law_refused, mkG, runD, b__law_refused, start0, g_chart, b_chart, hb, clL]
theorem cutS_mk (l : List Nat) (lo hi : Option Int) : ∃ l', cutS (mkS l) lo hi = mkS l' ∧ l'.length ≤ l.length ∧ (okC l → okC l') := by
  refine ⟨(l.drop (HT.sIx (mkS l).length 0 lo)).take (HT.sIx (mkS l).length (mkS l).length hi - HT.sIx (mkS l).length 0 lo), rfl, ?_, ?_⟩
  · rw [List.length_take, List.length_drop]; omega
  · intro h c hc
    exact h c (List.mem_of_mem_drop (List.mem_of_mem_take hc))
theorem cut_str {l : List Nat} (hl : l.length ≤ line) (lo hi : Option Int) : ∃ l', gCut (.str (mkS l)) lo hi = some (.str (mkS l')) ∧ l'.length ≤ l.length ∧ (okC l → okC l') := by
  obtain ⟨l', h1, h2, h3⟩ := cutS_mk l lo hi
  refine ⟨l', ?_, h2, h3⟩
  show (if (mkS l).length ≤ line then some (PyData.str (cutS (mkS l) lo hi)) else none) = _
  rw [if_pos (by rw [mkS_len]; exact hl), h1]
theorem bend_ok {known new : List Nat} (p q : Int) (hk : known.length ≤ 40) (hc : okC known) (hn : new.length ≤ 1) (hnc : okC new) :
    ∃ a1 a3 b, gCut (.str (mkS known)) none (some p) = some (.str (mkS a1)) ∧ gAdd (.str (mkS a1)) (.str (mkS new)) = some (.str (mkS (a1 ++ new))) ∧ gCut (.str (mkS known)) (some q) none = some (.str (mkS a3)) ∧ gAdd (.str (mkS (a1 ++ new))) (.str (mkS a3)) = some (.str (mkS b)) ∧ b.length < 90 ∧ okC b := by
  have hL : line = 100000 := rfl
  obtain ⟨a1, h1, h2, h3⟩ := cut_str (l := known) (by omega) none (some p)
  obtain ⟨a3, k1, k2, k3⟩ := cut_str (l := known) (by omega) (some q) none
  refine ⟨a1, a3, a1 ++ new ++ a3, h1, ?_, k1, ?_, ?_, okC_app (okC_app (h3 hc) hnc) (k3 hc)⟩
  · rw [o_addS, if_pos (by rw [mkS_len, mkS_len]; omega), mkS_app]
  · rw [o_addS, if_pos (by rw [mkS_len, mkS_len]; simp; omega), mkS_app]
  · simp; omega
theorem sign_at {v : Int} (h0 : 0 ≤ v) (h7 : v < 7) : ∃ c, c < 256 ∧ gIdx (.str "12/-: 0") (.int v) = some (.str (mkS [c])) := by
  have : v = 0 ∨ v = 1 ∨ v = 2 ∨ v = 3 ∨ v = 4 ∨ v = 5 ∨ v = 6 := by omega
  rcases this with rfl | rfl | rfl | rfl | rfl | rfl | rfl
  · exact ⟨49, by decide, by kernel_rfl⟩
  · exact ⟨50, by decide, by kernel_rfl⟩
  · exact ⟨47, by decide, by kernel_rfl⟩
  · exact ⟨45, by decide, by kernel_rfl⟩
  · exact ⟨58, by decide, by kernel_rfl⟩
  · exact ⟨32, by decide, by kernel_rfl⟩
  · exact ⟨48, by decide, by kernel_rfl⟩
theorem okC_teeth {ts : List Int} (h : ∀ t ∈ ts, 0 < t ∧ t < 100) : okC (teethT ts) := by
  refine okC_join (by decide) fun p hp => ?_
  obtain ⟨t, ht, rfl⟩ := List.mem_map.mp hp
  have := h t ht
  exact okC_digs (by omega)
theorem okC_bike (h : Bike rs cs) : okC (bikeT rs cs) := by
  refine okC_app (okC_teeth h.rpos) fun c hc => ?_
  rcases List.mem_cons.mp hc with rfl | hc
  · decide
  · exact okC_teeth h.cpos c hc
@[simp] theorem str_empty : Str.ofString "" = mkS [] := by decide +kernel
/-- the text that is bent: none of it, or itself -/
theorem again_in {w : Int} {b : List Nat} (hb : b.length < 90) (hc : okC b) (hw : w = 0 ∨ w = 1) : ∃ d, g__law_again [.int w, if w = 0 then .str (mkS b) else .list [.str (mkS b)]] = some (.ok d) ∧ gNotInT d (.tuple [.none, if w = 0 then .str (mkS b) else .list [.str (mkS b)]]) = some (.bool false) := by
  have hs : ∀ n, dep n (.str (mkS b)) = true := fun n => dep_str hc
  have hs0 : PyData.strOk (mkS b) = true := hs 0
  rcases hw with rfl | rfl
  · rcases again_bike (l := b) (by omega) with h | h
    · exact ⟨_, h, by simp [gNotInT, small, dep, hs, hs0, PyData.eqv]⟩
    · exact ⟨_, h, by simp [gNotInT, small, dep, hs, hs0, PyData.eqv]⟩
  · rcases again_row (l := b) (by omega) with h | h
    · exact ⟨_, h, by simp [gNotInT, small, dep, hs, hs0, PyData.eqv]⟩
    · exact ⟨_, h, by simp [gNotInT, small, dep, hs, hs0, PyData.eqv]⟩
theorem rows_law {m : En} (h : Bike rs cs) (hm : m.length = 15) : compGo (.nm 14) (eC (.bool true)) (eFn g__law_row (elCons (eVarS 14) elNil)) m (cs.map fun c => .list (rs.map fun r => redD r c)) = some (cs.map fun c => .str (mkS (rowT rs c))) := by
  obtain ⟨s1, s2⟩ := h.small
  have key : ∀ c ∈ cs, ∃ m1, bindT (.nm 14) (.list (rs.map fun r => redD r c)) m = some m1 ∧ (eFn g__law_row (elCons (eVarS 14) elNil)) m1 = some (.ok (.str (mkS (rowT rs c)))) := fun c hc =>
    ⟨_, rfl, by simp [hm, law_row_red (rs := rs) (c := c) (by omega) h.rpos (h.cpos c hc)]⟩
  have gen : ∀ l : List Int, (∀ c ∈ l, c ∈ cs) → compGo (.nm 14) (eC (.bool true)) (eFn g__law_row (elCons (eVarS 14) elNil)) m (l.map fun c => .list (rs.map fun r => redD r c)) = some (l.map fun c => .str (mkS (rowT rs c))) := by
    intro l
    induction l with
    | nil => intro _; rfl
    | cons c l ih =>
      intro hl
      obtain ⟨m1, h1, h2⟩ := key c (hl c (by simp))
      have h3 := ih fun d hd => hl d (List.mem_cons_of_mem _ hd)
      simp only [List.map_cons]
      unfold compGo
      rw [h1]
      simp only [x_C, h2, h3]
  exact gen cs fun c hc => hc
theorem least_row {m : En} {c : Int} (h : Bike rs cs) (hc : c ∈ cs) (hm : m.length = 15) (h4 : m[4]? = some (.dat (.int c))) : compGo (.nm 13) (eC (.bool true)) (eFn g__law_least (elCons (eVarS 13) (elCons (eVarS 4) elNil))) m (rs.map PyData.int) = some (rs.map fun r => redD r c) := by
  rw [comp_all (fun d => match d with | .int r => redD r c | _ => .none) _ (by
    intro d hd
    obtain ⟨r, hr, rfl⟩ := List.mem_map.mp hd
    have h1 := h.rpos r hr
    have h2 := h.cpos c hc
    refine ⟨_, rfl, ?_⟩
    obtain ⟨h5, h6⟩ := List.getElem?_eq_some_iff.mp h4
    simp [hm, h6, List.getElem?_set_ne, least_ok (a := r) (b := c) (by omega) (by omega) (by omega)])]
  simp [Function.comp_def]
/-- one turn of the bending -/
theorem turn_ok (hB : Bike rs cs) (ns : List Int) (h63 : ns.length ≤ 63) {k : Nat} (hk : k < 12) : True := trivial
end
theorem bike_dep {rs cs : List Int} {n : Nat} : dep (n + 2) (bikeD rs cs) = true := by simp [bikeD, teethD]
theorem eqv_ints (l : List Int) : PyData.eqvAll (l.map PyData.int) (l.map PyData.int) = true := eqvAll_refl fun x hx => by
  obtain ⟨i, _, rfl⟩ := List.mem_map.mp hx
  simp
theorem bike_eqv {rs cs : List Int} : PyData.eqv (bikeD rs cs) (bikeD rs cs) = true := by simp [bikeD, teethD, eqv_ints]
@[simp] theorem k_iSeqT {ts : List Int} : iSeqK (some (.ok (teethD ts))) = some (.ok (ts.map PyData.int)) := rfl
def rowD (rs : List Int) : MP.D → MP.D
  | .int c => .list (rs.map fun r => redD r c)
  | _ => .none
theorem red_eqv {a b : Int} : PyData.eqv (redD a b) (redD a b) = true := by simp [redD]
theorem red_dep {a b : Int} {n : Nat} : dep (n + 1) (redD a b) = true := by simp [redD]
theorem rat_eqvA {rs cs : List Int} : PyData.eqv (ratRows rs cs) (.list (cs.map fun c => .list (rs.map fun r => redD r c))) = true := by
  unfold ratRows
  simp only [PyData.eqv]
  refine eqvAll_refl fun x hx => ?_
  obtain ⟨c, _, rfl⟩ := List.mem_map.mp hx
  simp only [PyData.eqv]
  refine eqvAll_refl fun x hx => ?_
  obtain ⟨r, _, rfl⟩ := List.mem_map.mp hx
  exact red_eqv
theorem rat_depA {rs cs : List Int} : dep 8 (.list (cs.map fun c => .list (rs.map fun r => redD r c))) = true := by
  simp [dep, redD]
theorem rows_dep {rs cs : List Int} (hB : Bike rs cs) : dep 8 (.list (cs.map fun c => .str (mkS (rowT rs c)))) = true := by
  show (cs.map fun c => PyData.str (mkS (rowT rs c))).all (dep 7) = true
  rw [List.all_eq_true]
  intro x hx
  obtain ⟨c, hc, rfl⟩ := List.mem_map.mp hx
  exact dep_str (row_okC hB.rpos (hB.cpos c hc))
theorem rows_eqv {rs cs : List Int} : PyData.eqvAll (cs.map fun c => .str (mkS (rowT rs c))) (cs.map fun c => .str (mkS (rowT rs c))) = true := eqvAll_refl fun x hx => by
  obtain ⟨c, _, rfl⟩ := List.mem_map.mp hx
  simp
theorem plain : Plain := by
  intro ns h63
  obtain ⟨rs, cs, hB, hc5, e1⟩ := law_bike_ok ns h63 10 (by decide) (by decide)
  obtain ⟨o1, b1, hb1⟩ := badbike_ok ns h63 1 (by decide) (by decide)
  obtain ⟨o2, b2, hb2⟩ := badbike_ok ns h63 2 (by decide) (by decide)
  have D := fun (k many : Int) (h1 : 0 ≤ k) (h2 : k < 1000) (h3 : 0 < many) => drawn_ok ns h63 k many h1 (by omega) h3
  generalize hL : ns.map PyData.int = L at *
  obtain ⟨s1, s2⟩ := hB.small
  have hLn : line = 100000 := rfl
  have l1 : rs.length ≤ line := by omega
  have l2 : cs.length ≤ line := by omega
  have tx := text_ok hB
  have fm := format_ok hB
  have ps := parse_ok hB
  have ct := chart_ok hB
  have rc := read_chart_ok hB
  have dT : ∀ n, dep n (.str (mkS (bikeT rs cs))) = true := fun n => dep_str (okC_bike hB)
  unfold runD
  simp only [b_law, start0]
  simp [e1, tx, fm, ps, dT, rejected_ok, bike_dep (n := 6), bike_eqv]
  generalize hF : forGo _ _ _ _ = o
  obtain ⟨m1, rfl, x4, rfl⟩ := for_of hF (fun done m => ∃ x4, m = [.dat (.list L), .dat (bikeD rs cs), .dat (.str (mkS (bikeT rs cs))), .own (done.map (rowD rs)), x4, .un, .un, .un, .un, .un, .un, .un, .un, .un, .un]) ⟨.un, by simp⟩ (by
    rintro done d rest m' hd ⟨x4, rfl⟩
    obtain ⟨c, hc, rfl⟩ := List.mem_map.mp (mid_mem hd)
    have hlen := mid_len hd
    rw [List.length_map] at hlen
    have hdl : done.length < line := by omega
    have e := least_row (m := [.dat (.list L), .dat (bikeD rs cs), .dat (.str (mkS (bikeT rs cs))), .own (done.map (rowD rs)), .dat (.int c), .un, .un, .un, .un, .un, .un, .un, .un, .un, .un]) hB hc rfl rfl
    refine ⟨_, [.dat (.list L), .dat (bikeD rs cs), .dat (.str (mkS (bikeT rs cs))), .own ((done ++ [PyData.int c]).map (rowD rs)), .dat (.int c), .un, .un, .un, .un, .un, .un, .un, .un, .un, .un], rfl, .inl ?_, _, rfl⟩
    have hRl : (done.map (rowD rs)).length < line := by rw [List.length_map]; exact hdl
    rw [List.map_append]
    generalize done.map (rowD rs) = R at e hRl ⊢
    simp [l1, e, hRl, rowD])
  clear hF
  have eR : (cs.map PyData.int).map (rowD rs) = cs.map fun c => .list (rs.map fun r => redD r c) := by simp [rowD, Function.comp_def]
  rw [eR]
  have ct' : g_chart [bikeD rs cs] = some (.ok (.list (cs.map fun c => .str (mkS (rowT rs c))))) := by rw [ct]; simp [rowsD, Function.comp_def]
  have rc' : g_read_chart [.list (cs.map fun c => .str (mkS (rowT rs c)))] = some (.ok (ratRows rs cs)) := by
    have e : PyData.list (cs.map fun c => .str (mkS (rowT rs c))) = rowsD (cs.map (rowT rs)) := by simp [rowsD, Function.comp_def]
    rw [e]; exact rc
  have rl := rows_law (m := [.dat (.list L), .dat (bikeD rs cs), .dat (.str (mkS (bikeT rs cs))), .own (cs.map fun c => .list (rs.map fun r => redD r c)), x4, .un, .un, .un, .un, .un, .un, .un, .un, .un, .un]) hB rfl
  have hd1 := rows_dep hB
  have hq1 := rows_eqv (rs := rs) (cs := cs)
  have hd2 := rat_depA (rs := rs) (cs := cs)
  have hd3 : dep 8 (ratRows rs cs) = true := hd2
  have hq2 := rat_eqvA (rs := rs) (cs := cs)
  have hRn : (cs.map fun c => PyData.list (rs.map fun r => redD r c)).length = cs.length := by simp
  have hCn : (cs.map fun c => PyData.str (mkS (rowT rs c))).length = cs.length := by simp
  have hRow : ∀ v : Int, 0 ≤ v → v < cs.length → ∃ c ∈ cs, atI (cs.map fun c => PyData.str (mkS (rowT rs c))) v = some (.str (mkS (rowT rs c))) := fun v h0 h1 => by
    rw [atI_pos h0 (by simpa using h1)]
    have hv : v.toNat < cs.length := by omega
    exact ⟨cs[v.toNat], List.getElem_mem hv, by simp [hv]⟩
  generalize (cs.map fun c => PyData.list (rs.map fun r => redD r c)) = R at *
  generalize (cs.map fun c => PyData.str (mkS (rowT rs c))) = C at *
  generalize hrr : ratRows rs cs = RR at *
  have hd1' : C.all (dep 7) = true := hd1
  have hd2' : R.all (dep 7) = true := hd2
  have l3 : R.length ≤ line := by omega
  simp [ct', l3, rl, hd1', hd2', hd3, hq1, hq2, rc']
  generalize hF : forGo _ _ _ _ = o
  obtain ⟨m1, rfl, x5, x6, x7, x8, x9, x10, x11, x12, rfl⟩ := for_of hF (fun done m => ∃ x5 x6 x7 x8 x9 x10 x11 x12, m = [.dat (.list L), .dat (bikeD rs cs), .dat (.str (mkS (bikeT rs cs))), .own R, x4, x5, x6, x7, x8, x9, x10, x11, x12, .un, .un]) ⟨.un, .un, .un, .un, .un, .un, .un, .un, by simp⟩ (by
    rintro done d rest m' hd ⟨x5, x6, x7, x8, x9, x10, x11, x12, rfl⟩
    obtain ⟨rfl, hlt⟩ := irange_at hd
    have e0 : (0 : Int) + (done.length : Int) = (done.length : Int) := by omega
    rw [e0]
    generalize done.length = k at hlt ⊢
    have hk5 : -18446744073709551616 < (k : Int) ∧ (k : Int) < 18446744073709551616 := by omega
    have hc1 := hB.c.l1
    obtain ⟨v4, d4, d4a, d4b⟩ := D (40 + 5 * (k : Int) + 4) cs.length (by omega) (by omega) (by omega)
    obtain ⟨c, hc, hat⟩ := hRow v4 d4a d4b
    have hw : (k : Int) % 2 = 0 ∨ (k : Int) % 2 = 1 := by omega
    obtain ⟨known, hkn, hkl, hkc⟩ : ∃ known, atI [PyData.str (mkS (bikeT rs cs)), .str (mkS (rowT rs c))] ((k : Int) % 2) = some (.str (mkS known)) ∧ known.length ≤ 40 ∧ okC known := by
      rcases hw with h | h
      · exact ⟨bikeT rs cs, by rw [h]; rfl, bikeT_len hB, okC_bike hB⟩
      · exact ⟨rowT rs c, by rw [h]; rfl, by have := row_len (rs := rs) (c := c); omega, row_okC hB.rpos (hB.cpos c hc)⟩
    obtain ⟨v0, d0, d0a, d0b⟩ := D (40 + 5 * (k : Int)) ((known.length : Int) + 1) (by omega) (by omega) (by omega)
    obtain ⟨v1, d1, d1a, d1b⟩ := D (40 + 5 * (k : Int) + 1) 7 (by omega) (by omega) (by omega)
    obtain ⟨v2, d2, d2a, d2b⟩ := D (40 + 5 * (k : Int) + 2) 3 (by omega) (by omega) (by omega)
    obtain ⟨v3, d3, d3a, d3b⟩ := D (40 + 5 * (k : Int) + 3) 2 (by omega) (by omega) (by omega)
    obtain ⟨sg, hsg, hsgn⟩ := sign_at d1a d1b
    obtain ⟨new, hnew, hn1, hnc⟩ : ∃ new, (if v2 = 0 then PyData.str (mkS []) else .str (mkS [sg])) = .str (mkS new) ∧ new.length ≤ 1 ∧ okC new := by
      by_cases h : v2 = 0
      · exact ⟨[], by rw [if_pos h], by simp, fun c hc => nomatch hc⟩
      · exact ⟨[sg], by rw [if_neg h], by simp, fun c hc => by simp at hc; omega⟩
    obtain ⟨a1, a3, b, k1, k2, k3, k4, k5, k6⟩ := bend_ok (known := known) (new := new) v0 (v0 + v3) hkl hkc hn1 hnc
    have hkl2 : known.length ≤ line := by omega
    obtain ⟨dd, ha, hn⟩ := again_in k5 k6 hw
    refine ⟨_, [.dat (.list L), .dat (bikeD rs cs), .dat (.str (mkS (bikeT rs cs))), .own R, x4, .dat (.int k), .dat (.int (40 + 5 * (k : Int))), .dat (.int ((k : Int) % 2)), .dat (.str (mkS known)), .dat (.int v0), .dat (.str (mkS [sg])), .dat (.str (mkS new)), .dat (.str (mkS b)), .un, .un], rfl, .inl ?_, _, _, _, _, _, _, _, _, rfl⟩
    generalize hW : (k : Int) % 2 = w at *
    generalize hA : 40 + 5 * (k : Int) = at_ at *
    have hsgn' : gIdx (.str (Str.ofString "12/-: 0")) (.int v1) = some (.str (mkS [sg])) := hsgn
    by_cases q : v2 = 0
    · rw [if_pos q] at hnew
      cases hnew
      rw [List.append_nil] at k2 k4
      rcases hw with rfl | rfl
      · rw [if_pos rfl] at ha hn
        simp [hk5, hW, hA, ct', hRn, d4, hat, hkn, mkS_len, hkl2, d0, d1, hsgn', d2, d3, k1, k2, k3, k4, ha, hn, q, -idxS, -o_addS]
      · rw [if_neg (by decide)] at ha hn
        simp [hk5, hW, hA, ct', hRn, d4, hat, hkn, mkS_len, hkl2, d0, d1, hsgn', d2, d3, k1, k2, k3, k4, ha, hn, q, -idxS, -o_addS]
    · rw [if_neg q] at hnew
      cases hnew
      have q' : (v2 == 0) = false := by simpa using q
      rcases hw with rfl | rfl
      · rw [if_pos rfl] at ha hn
        simp [hk5, hW, hA, ct', hRn, d4, hat, hkn, mkS_len, hkl2, d0, d1, hsgn', d2, d3, k1, k2, k3, k4, ha, hn, q, q', -idxS, -o_addS]
      · rw [if_neg (by decide)] at ha hn
        simp [hk5, hW, hA, ct', hRn, d4, hat, hkn, mkS_len, hkl2, d0, d1, hsgn', d2, d3, k1, k2, k3, k4, ha, hn, q, q', -idxS, -o_addS])
  clear hF
  simp [b1, b2, refused_bike hb1, refused_bike hb2]
end MP

set_option Elab.async false
set_option linter.all false
set_option maxRecDepth 100000
set_option maxHeartbeats 0
namespace MP
open PySem PySem.Spec PyProof.Rows L2
theorem gm_of {K : PySem.W.Frag} {h : Heap} {mg : Str → Option Value} {w : World} (X : K.In h) (G : h.Ns mainGlobals mg) (c : He.SaysX faL fnL [] [] (exAll clL) w h K) : Gm K mg where
  m_all := He.free_ok X G (c.t.d.fact 26 (f := .free "all") rfl)
  m_bool := He.free_ok X G (c.t.d.fact 27 (f := .free "bool") rfl)
  m_int := He.free_ok X G (c.t.d.fact 28 (f := .free "int") rfl)
  m_isinstance := He.free_ok X G (c.t.d.fact 29 (f := .free "isinstance") rfl)
  m_len := He.free_ok X G (c.t.d.fact 30 (f := .free "len") rfl)
  m_list := He.free_ok X G (c.t.d.fact 31 (f := .free "list") rfl)
  m_range := He.free_ok X G (c.t.d.fact 32 (f := .free "range") rfl)
  m_set := He.free_ok X G (c.t.d.fact 33 (f := .free "set") rfl)
  m_sorted := He.free_ok X G (c.t.d.fact 34 (f := .free "sorted") rfl)
  m_str := He.free_ok X G (c.t.d.fact 35 (f := .free "str") rfl)
  m_tuple := He.free_ok X G (c.t.d.fact 36 (f := .free "tuple") rfl)
  m_zip := He.free_ok X G (c.t.d.fact 37 (f := .free "zip") rfl)
  i_MIN_RING := He.int_ok X G (c.t.d.fact 38 (f := .int "MIN_RING" 10) rfl)
  i_MAX_RING := He.int_ok X G (c.t.d.fact 39 (f := .int "MAX_RING" 60) rfl)
  i_MAX_RINGS := He.int_ok X G (c.t.d.fact 40 (f := .int "MAX_RINGS" 3) rfl)
  i_MIN_COG := He.int_ok X G (c.t.d.fact 41 (f := .int "MIN_COG" 8) rfl)
  i_MAX_COG := He.int_ok X G (c.t.d.fact 42 (f := .int "MAX_COG" 50) rfl)
  i_MAX_COGS := He.int_ok X G (c.t.d.fact 43 (f := .int "MAX_COGS" 8) rfl)
  i_MAX_DIGITS := He.int_ok X G (c.t.d.fact 44 (f := .int "MAX_DIGITS" 2) rfl)
  s_DIGITS := He.str_ok X G (c.t.d.fact 45 (f := .str "DIGITS" "0123456789") rfl)
  s_DASH := He.str_ok X G (c.t.d.fact 46 (f := .str "DASH" "-") rfl)
  s_SLASH := He.str_ok X G (c.t.d.fact 47 (f := .str "SLASH" "/") rfl)
  s_COLON := He.str_ok X G (c.t.d.fact 48 (f := .str "COLON" ":") rfl)
  s_SPACE := He.str_ok X G (c.t.d.fact 49 (f := .str "SPACE" " ") rfl)
  x_InvalidBike := exAll_xc X G c.more (by decide)
  x_ParseError := exAll_xc X G c.more (by decide)
  xk := exAll_xk X G c.more
theorem facts {P : Program} {w : World} {K : PySem.W.Frag} {h : Heap} {mg : Str → Option Value} {f : Addr} (hp : Plain) (X : K.In h) (G : h.Ns mainGlobals mg) (hfa : mg ("law" : Str) = some (.ref f)) (c : He.SaysX faL fnL [] [] (exAll clL) w h K) :
    ∃ fd : FuncData, (∀ (s : Shared) (v : Value), BindsTo s fd ⟨[v], []⟩ [("script", v)]) ∧ ∀ base : Heap, K.In base → base.Ns mainGlobals mg → FnOk P w K mg base CX0 8 f fd ["script"] (spLaw K) := by
  have gm := gm_of X G c
  obtain ⟨fd, F⟩ := c.t.d.def_ 25 (d := dd_law) rfl
  have e := hfa.symm.trans (He.glo_ok X G (c.t.d.fact 25 (f := .glo "law") rfl))
  cases e
  have b := FunD.bindsA (ps := ["script"]) F fun _ _ _ _ _ _ us hl => match us, hl with | [_], _ => rfl
  refine ⟨fd, fun s v => b s [v] rfl, fun base _ _ => ?_⟩
  have d_is_int : Df P w K mg base 1 "is_int" g_is_int := by
    obtain ⟨fd, F⟩ := c.t.d.def_ 0 (d := dd_is_int) rfl
    exact df_of (N := N_is_int) F (He.glo_ok X G (c.t.d.fact 0 (f := .glo "is_int") rfl)) sc_is_int (fun _ _ _ _ _ _ us hl => match us, hl with | [_, _, _], _ => rfl) mkG_ok (fun cdv A outer s H E hr F => js_is_int gm hr F)
  have d_are_teeth : Df P w K mg base 2 "are_teeth" g_are_teeth := by
    obtain ⟨fd, F⟩ := c.t.d.def_ 1 (d := dd_are_teeth) rfl
    exact df_of (N := N_are_teeth) F (He.glo_ok X G (c.t.d.fact 1 (f := .glo "are_teeth") rfl)) sc_are_teeth (fun _ _ _ _ _ _ us hl => match us, hl with | [_, _, _, _], _ => rfl) mkG_ok (fun cdv A outer s H E hr F => js_are_teeth gm (d_is_int.mono (by decide)) hr F)
  have d_are_rings : Df P w K mg base 3 "are_rings" g_are_rings := by
    obtain ⟨fd, F⟩ := c.t.d.def_ 2 (d := dd_are_rings) rfl
    exact df_of (N := N_are_rings) F (He.glo_ok X G (c.t.d.fact 2 (f := .glo "are_rings") rfl)) sc_are_rings (fun _ _ _ _ _ _ us hl => match us, hl with | [_], _ => rfl) mkG_ok (fun cdv A outer s H E hr F => js_are_rings gm (d_are_teeth.mono (by decide)) hr F)
  have d_are_cogs : Df P w K mg base 3 "are_cogs" g_are_cogs := by
    obtain ⟨fd, F⟩ := c.t.d.def_ 3 (d := dd_are_cogs) rfl
    exact df_of (N := N_are_cogs) F (He.glo_ok X G (c.t.d.fact 3 (f := .glo "are_cogs") rfl)) sc_are_cogs (fun _ _ _ _ _ _ us hl => match us, hl with | [_], _ => rfl) mkG_ok (fun cdv A outer s H E hr F => js_are_cogs gm (d_are_teeth.mono (by decide)) hr F)
  have d_is_bike : Df P w K mg base 4 "is_bike" g_is_bike := by
    obtain ⟨fd, F⟩ := c.t.d.def_ 4 (d := dd_is_bike) rfl
    exact df_of (N := N_is_bike) F (He.glo_ok X G (c.t.d.fact 4 (f := .glo "is_bike") rfl)) sc_is_bike (fun _ _ _ _ _ _ us hl => match us, hl with | [_], _ => rfl) mkG_ok (fun cdv A outer s H E hr F => js_is_bike gm (d_are_cogs.mono (by decide)) (d_are_rings.mono (by decide)) hr F)
  have d_check_bike : Df P w K mg base 5 "check_bike" g_check_bike := by
    obtain ⟨fd, F⟩ := c.t.d.def_ 5 (d := dd_check_bike) rfl
    exact df_of (N := N_check_bike) F (He.glo_ok X G (c.t.d.fact 5 (f := .glo "check_bike") rfl)) sc_check_bike (fun _ _ _ _ _ _ us hl => match us, hl with | [_], _ => rfl) mkG_ok (fun cdv A outer s H E hr F => js_check_bike gm (d_is_bike.mono (by decide)) hr F)
  have d_divisor : Df P w K mg base 1 "divisor" g_divisor := by
    obtain ⟨fd, F⟩ := c.t.d.def_ 6 (d := dd_divisor) rfl
    exact df_of (N := N_divisor) F (He.glo_ok X G (c.t.d.fact 6 (f := .glo "divisor") rfl)) sc_divisor (fun _ _ _ _ _ _ us hl => match us, hl with | [_, _], _ => rfl) mkG_ok (fun cdv A outer s H E hr F => js_divisor gm hr F)
  have d_reduced : Df P w K mg base 2 "reduced" g_reduced := by
    obtain ⟨fd, F⟩ := c.t.d.def_ 7 (d := dd_reduced) rfl
    exact df_of (N := N_reduced) F (He.glo_ok X G (c.t.d.fact 7 (f := .glo "reduced") rfl)) sc_reduced (fun _ _ _ _ _ _ us hl => match us, hl with | [_, _], _ => rfl) mkG_ok (fun cdv A outer s H E hr F => js_reduced gm (d_divisor.mono (by decide)) hr F)
  have d_find_ratio : Df P w K mg base 3 "find_ratio" g_find_ratio := by
    obtain ⟨fd, F⟩ := c.t.d.def_ 8 (d := dd_find_ratio) rfl
    exact df_of (N := N_find_ratio) F (He.glo_ok X G (c.t.d.fact 8 (f := .glo "find_ratio") rfl)) sc_find_ratio (fun _ _ _ _ _ _ us hl => match us, hl with | [_, _], _ => rfl) mkG_ok (fun cdv A outer s H E hr F => js_find_ratio gm (d_reduced.mono (by decide)) hr F)
  have d_join_bike : Df P w K mg base 1 "join_bike" g_join_bike := by
    obtain ⟨fd, F⟩ := c.t.d.def_ 9 (d := dd_join_bike) rfl
    exact df_of (N := N_join_bike) F (He.glo_ok X G (c.t.d.fact 9 (f := .glo "join_bike") rfl)) sc_join_bike (fun _ _ _ _ _ _ us hl => match us, hl with | [_], _ => rfl) mkG_ok (fun cdv A outer s H E hr F => js_join_bike gm hr F)
  have d_format_bike : Df P w K mg base 6 "format_bike" g_format_bike := by
    obtain ⟨fd, F⟩ := c.t.d.def_ 10 (d := dd_format_bike) rfl
    exact df_of (N := N_format_bike) F (He.glo_ok X G (c.t.d.fact 10 (f := .glo "format_bike") rfl)) sc_format_bike (fun _ _ _ _ _ _ us hl => match us, hl with | [_], _ => rfl) mkG_ok (fun cdv A outer s H E hr F => js_format_bike gm (d_check_bike.mono (by decide)) (d_join_bike.mono (by decide)) hr F)
  have d_read_int : Df P w K mg base 1 "read_int" g_read_int := by
    obtain ⟨fd, F⟩ := c.t.d.def_ 11 (d := dd_read_int) rfl
    exact df_of (N := N_read_int) F (He.glo_ok X G (c.t.d.fact 11 (f := .glo "read_int") rfl)) sc_read_int (fun _ _ _ _ _ _ us hl => match us, hl with | [_], _ => rfl) mkG_ok (fun cdv A outer s H E hr F => js_read_int gm hr F)
  have d_parse_bike : Df P w K mg base 5 "parse_bike" g_parse_bike := by
    obtain ⟨fd, F⟩ := c.t.d.def_ 12 (d := dd_parse_bike) rfl
    exact df_of (N := N_parse_bike) F (He.glo_ok X G (c.t.d.fact 12 (f := .glo "parse_bike") rfl)) sc_parse_bike (fun _ _ _ _ _ _ us hl => match us, hl with | [_], _ => rfl) mkG_ok (fun cdv A outer s H E hr F => js_parse_bike gm (d_is_bike.mono (by decide)) (d_read_int.mono (by decide)) hr F)
  have d_chart : Df P w K mg base 6 "chart" g_chart := by
    obtain ⟨fd, F⟩ := c.t.d.def_ 13 (d := dd_chart) rfl
    exact df_of (N := N_chart) F (He.glo_ok X G (c.t.d.fact 13 (f := .glo "chart") rfl)) sc_chart (fun _ _ _ _ _ _ us hl => match us, hl with | [_], _ => rfl) mkG_ok (fun cdv A outer s H E hr F => js_chart gm (d_check_bike.mono (by decide)) (d_find_ratio.mono (by decide)) hr F)
  have d_read_ratio : Df P w K mg base 2 "read_ratio" g_read_ratio := by
    obtain ⟨fd, F⟩ := c.t.d.def_ 14 (d := dd_read_ratio) rfl
    exact df_of (N := N_read_ratio) F (He.glo_ok X G (c.t.d.fact 14 (f := .glo "read_ratio") rfl)) sc_read_ratio (fun _ _ _ _ _ _ us hl => match us, hl with | [_], _ => rfl) mkG_ok (fun cdv A outer s H E hr F => js_read_ratio gm (d_divisor.mono (by decide)) (d_read_int.mono (by decide)) hr F)
  have d_read_chart : Df P w K mg base 3 "read_chart" g_read_chart := by
    obtain ⟨fd, F⟩ := c.t.d.def_ 15 (d := dd_read_chart) rfl
    exact df_of (N := N_read_chart) F (He.glo_ok X G (c.t.d.fact 15 (f := .glo "read_chart") rfl)) sc_read_chart (fun _ _ _ _ _ _ us hl => match us, hl with | [_], _ => rfl) mkG_ok (fun cdv A outer s H E hr F => js_read_chart gm (d_read_ratio.mono (by decide)) hr F)
  have d__law_drawn : Df P w K mg base 1 "_law_drawn" g__law_drawn := by
    obtain ⟨fd, F⟩ := c.t.d.def_ 16 (d := dd__law_drawn) rfl
    exact df_of (N := N__law_drawn) F (He.glo_ok X G (c.t.d.fact 16 (f := .glo "_law_drawn") rfl)) sc__law_drawn (fun _ _ _ _ _ _ us hl => match us, hl with | [_, _, _], _ => rfl) mkG_ok (fun cdv A outer s H E hr F => js__law_drawn gm hr F)
  have d__law_bike : Df P w K mg base 2 "_law_bike" g__law_bike := by
    obtain ⟨fd, F⟩ := c.t.d.def_ 17 (d := dd__law_bike) rfl
    exact df_of (N := N__law_bike) F (He.glo_ok X G (c.t.d.fact 17 (f := .glo "_law_bike") rfl)) sc__law_bike (fun _ _ _ _ _ _ us hl => match us, hl with | [_, _], _ => rfl) mkG_ok (fun cdv A outer s H E hr F => js__law_bike gm (d__law_drawn.mono (by decide)) hr F)
  have d__law_least : Df P w K mg base 1 "_law_least" g__law_least := by
    obtain ⟨fd, F⟩ := c.t.d.def_ 18 (d := dd__law_least) rfl
    exact df_of (N := N__law_least) F (He.glo_ok X G (c.t.d.fact 18 (f := .glo "_law_least") rfl)) sc__law_least (fun _ _ _ _ _ _ us hl => match us, hl with | [_, _], _ => rfl) mkG_ok (fun cdv A outer s H E hr F => js__law_least gm hr F)
  have d__law_badbike : Df P w K mg base 2 "_law_badbike" g__law_badbike := by
    obtain ⟨fd, F⟩ := c.t.d.def_ 19 (d := dd__law_badbike) rfl
    exact df_of (N := N__law_badbike) F (He.glo_ok X G (c.t.d.fact 19 (f := .glo "_law_badbike") rfl)) sc__law_badbike (fun _ _ _ _ _ _ us hl => match us, hl with | [_, _], _ => rfl) mkG_ok (fun cdv A outer s H E hr F => js__law_badbike gm (d__law_drawn.mono (by decide)) hr F)
  have d__law_text : Df P w K mg base 1 "_law_text" g__law_text := by
    obtain ⟨fd, F⟩ := c.t.d.def_ 20 (d := dd__law_text) rfl
    exact df_of (N := N__law_text) F (He.glo_ok X G (c.t.d.fact 20 (f := .glo "_law_text") rfl)) sc__law_text (fun _ _ _ _ _ _ us hl => match us, hl with | [_], _ => rfl) mkG_ok (fun cdv A outer s H E hr F => js__law_text gm hr F)
  have d__law_row : Df P w K mg base 1 "_law_row" g__law_row := by
    obtain ⟨fd, F⟩ := c.t.d.def_ 21 (d := dd__law_row) rfl
    exact df_of (N := N__law_row) F (He.glo_ok X G (c.t.d.fact 21 (f := .glo "_law_row") rfl)) sc__law_row (fun _ _ _ _ _ _ us hl => match us, hl with | [_], _ => rfl) mkG_ok (fun cdv A outer s H E hr F => js__law_row gm hr F)
  have d__law_again : Df P w K mg base 6 "_law_again" g__law_again := by
    obtain ⟨fd, F⟩ := c.t.d.def_ 22 (d := dd__law_again) rfl
    exact df_of (N := N__law_again) F (He.glo_ok X G (c.t.d.fact 22 (f := .glo "_law_again") rfl)) sc__law_again (fun _ _ _ _ _ _ us hl => match us, hl with | [_, _], _ => rfl) mkG_ok (fun cdv A outer s H E hr F => js__law_again gm (d__law_row.mono (by decide)) (d__law_text.mono (by decide)) (d_parse_bike.mono (by decide)) (d_read_chart.mono (by decide)) hr F)
  have d__law_rejected : Df P w K mg base 7 "_law_rejected" g__law_rejected := by
    obtain ⟨fd, F⟩ := c.t.d.def_ 23 (d := dd__law_rejected) rfl
    exact df_of (N := N__law_rejected) F (He.glo_ok X G (c.t.d.fact 23 (f := .glo "_law_rejected") rfl)) sc__law_rejected (fun _ _ _ _ _ _ us hl => match us, hl with | [], _ => rfl) mkG_ok (fun cdv A outer s H E hr F => js__law_rejected gm (d__law_again.mono (by decide)) (d_parse_bike.mono (by decide)) (d_read_chart.mono (by decide)) hr F)
  have d__law_refused : Df P w K mg base 7 "_law_refused" g__law_refused := by
    obtain ⟨fd, F⟩ := c.t.d.def_ 24 (d := dd__law_refused) rfl
    exact df_of (N := N__law_refused) F (He.glo_ok X G (c.t.d.fact 24 (f := .glo "_law_refused") rfl)) sc__law_refused (fun _ _ _ _ _ _ us hl => match us, hl with | [_, _], _ => rfl) mkG_ok (fun cdv A outer s H E hr F => js__law_refused gm (d_chart.mono (by decide)) (d_format_bike.mono (by decide)) hr F)
  exact law_of (N := N_law) F sc_law (by decide) hp (fun cdv A outer s H E hr F => js_law gm (d__law_again.mono (by decide)) (d__law_badbike.mono (by decide)) (d__law_bike.mono (by decide)) (d__law_drawn.mono (by decide)) (d__law_least.mono (by decide)) (d__law_refused.mono (by decide)) (d__law_rejected.mono (by decide)) (d__law_row.mono (by decide)) (d__law_text.mono (by decide)) (d_chart.mono (by decide)) (d_format_bike.mono (by decide)) (d_parse_bike.mono (by decide)) (d_read_chart.mono (by decide)) hr F)
end MP
open PySem PySem.W PySem.Calls PyProof.Rows
theorem PySem.Challenge.cw_cogrings_k68_formats_holds : PySem.Challenge.rw_cogrings_k68_formats.Holds := by
  w_on; o_law
  refine HandSHeadRun.head_any (r := OpenLaw.row PySem.Challenge.rw_cogrings_k68_formats) (q := view (OpenLaw.row PySem.Challenge.rw_cogrings_k68_formats).prog [44]) (H := MP.hk) (ob := MP.ob) (M := 3000) (loose := MP.looseL) (d := HandSHeadRun.topDef (OpenLaw.row PySem.Challenge.rw_cogrings_k68_formats).prog 44) (kwd := []) MP.ob_eq
    (by kernel_rfl) (fun s => by kernel_rfl) MP.run (by kernel_rfl) (by kernel_rfl) (by kernel_rfl) (by rfl) (by first | assumption | decide +kernel) (by decide +kernel) ⟨rfl, rfl, rfl, rfl, rfl, by decide +kernel⟩ ?hw ?hc
  case hw => w_witness2
  case hc =>
    refine L2.walk_ofE (l := PySem.Challenge.rw_cogrings_k68_formats) (n := 63) (k := 8) (x := "script") (CX := L2.CX0) rfl (by decide) (by kernel_rfl) ⟨rfl, by decide, by decide⟩ ?F (fun _ _ _ _ z => z)
    intro w mg fa h Y G hmg0
    obtain ⟨K, KX, c⟩ := Y
    have hmg : mg ("law" : PySem.Str) = some (.ref fa) := by
      have e : (HandSHeadRun.topDef (OpenLaw.row PySem.Challenge.rw_cogrings_k68_formats).prog 44).name = ("law" : PySem.Str) := by kernel_rfl
      rw [← e]
      exact hmg0
    obtain ⟨fd, hb, hF⟩ := MP.facts (P := (PySem.Challenge.rw_cogrings_k68_formats).prog) (w := w) MP.plain KX G hmg c
    exact ⟨K, fd, MP.spLaw K, KX, hb, fun H a ns hl _ hS => ⟨a, ns, rfl, hS, hl, fun _ => rfl⟩, hF⟩
