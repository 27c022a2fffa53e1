import PyProof.Rows.All
import Wide.All
import OpenK.AllK
import Wide.FinOn
import KE.KStateDown
import Lean
import HandS.ForMost
import HandS.WordsExc
import HandS.Defaults
import HandS.Slots
import HandS.Head0
import HandS.Head1
import HandS.Head2
import HandS.HeadEnd
import HandS.HeadHook1
import HandS.HeadHook2
import HandS.Evl
import HandS.Zip
import HandS.TupAny
import HandS.Conv
import HandS.Flow
import HandS.DictComp
import HandS.Rev
import KE.SortData
import PyProof.SeqIndex
import PyProof.ReprReads
import HandS.Star
import KE.KIndexOf
import HandS.Iter
import KE.KDictSum
import KE.GoesEnum
import HandS.Small
import HandS.SetFor
import HandS.TupSets
import KE.KeyNested
import HandS.Strs
import PySem.Challenge.RW_pinsenough_k03_whole_tables_renumbered
section
set_option autoImplicit true
set_option Elab.async false
set_option linter.all false
set_option maxRecDepth 100000
set_option maxHeartbeats 0
/-! The head: which defs stand where behind the top, by one run. -/
namespace K3
open PySem PySem.Spec PyProof.Rows L2
abbrev row3 : PySem.W.OpenLaw := PySem.Challenge.rw_pinsenough_k03_whole_tables_renumbered
def top (i : Nat) : Stmt := PySem.Challenge.pw_pinsenough_k03_whole_tables_renumbered.main.body.getD i (.Pass ⟨0, 0, 0, 0⟩)
abbrev cSt (j : Nat) : Stmt := inClass (top 15) j
/-- one def of the top -/
def dTop (x : Str) (i : Nat) : He.DefD := ⟨(x, none), x, x, defArgs (top i), defBody (top i), defScope (top i), [], []⟩
def dMet (x q : Str) (j : Nat) : He.DefD := ⟨("Counted", some x), x, q, defArgs (cSt j), defBody (cSt j), defScope (cSt j), [], []⟩
def fnA : List He.DefD := [
  dTop "nodes_in" 2, dTop "renumbered" 4, dTop "renumbered_program" 5, dTop "renumbered_reading" 6, dTop "least_programs" 8, dTop "made_kinds" 9,
  dTop "readings_many" 16, dTop "readings_of" 17, dTop "unread_node" 18,
  dTop "_law_bag" 20, dTop "_law_take" 21, dTop "_law_some" 22, dTop "_law_mixed" 23, dTop "_law_alike" 24, dTop "_law_signs" 25, dTop "_law_entry" 26, dTop "_law_told" 27]
def fnB : List He.DefD := [dTop "_law_any_table" 28, dTop "_law_plain_table" 29, dTop "_law_chain_table" 30, dTop "_law_planted_table" 31, dTop "_law_table" 32, dTop "_law_made" 33, dTop "_law_size" 34,
  dTop "_law_put" 35, dTop "_law_grown" 36, dTop "_law_program" 37, dTop "_law_any_program" 38, dTop "_law_counted" 39, dTop "_law_listed" 40, dTop "_law_readings" 41,
  dTop "_law_joined" 42, dTop "_law_back" 43, dTop "_law_led_table" 44, dTop "_law_led_program" 45, dTop "_law_goes_along" 46, dTop "law" 47,
  dMet "__init__" "Counted.__init__" 1, dMet "ways" "Counted.ways" 2, dMet "whole" "Counted.whole" 3, dMet "entries_at" "Counted.entries_at" 4, dMet "by_index" "Counted.by_index" 5, dMet "by_rest" "Counted.by_rest" 6]
def fn3 : List He.DefD := fnA ++ fnB
def globsA : List Str := ["nodes_in", "renumbered", "renumbered_program", "renumbered_reading", "least_programs", "made_kinds",
  "readings_many", "readings_of", "unread_node", "_law_bag", "_law_take", "_law_some", "_law_mixed", "_law_alike", "_law_signs", "_law_entry", "_law_told"]
def globsB : List Str := ["_law_any_table", "_law_plain_table", "_law_chain_table", "_law_planted_table", "_law_table", "_law_made", "_law_size",
  "_law_put", "_law_grown", "_law_program", "_law_any_program", "_law_counted", "_law_listed", "_law_readings",
  "_law_joined", "_law_back", "_law_led_table", "_law_led_program", "_law_goes_along", "law", "Counted"]
def globs3 : List Str := globsA ++ globsB
def frees3 : List Str := ["range", "len", "sum", "int", "abs", "tuple", "sorted", "set", "list", "dict", "all", "enumerate", "zip", "max", "min", "repr"]
def meths3 : List Str := ["ways", "whole", "entries_at", "by_index", "by_rest"]
def fa3 : List He.Fa := (globs3.map .glo) ++ (frees3.map .free) ++ (meths3.map (.meth "Counted")) ++ [.mkr "Counted", .int "MOST_READINGS" 5000]
/-- a slot of Counted -/
def slB (K : PySem.W.Frag) (f : Str) (i : Nat) : Bool :=
  He.eqO (PySem.W.findIn K (.ref (He.ga K "Counted")) f) (some (some (.ref (He.ma K (He.ga K "Counted") f)))) &&
  (He.eqO (PySem.W.specialIn K (.ref (He.ma K (He.ga K "Counted") f)) "__get__") (some (some (.builtin "member_descriptor.__get__"))) &&
  (decide (PySem.W.takesIn K (.ref (He.ma K (He.ga K "Counted") f)) = some true) &&
  (decide (PySem.W.typeIn K (.ref (He.ma K (He.ga K "Counted") f)) = some (.type "member_descriptor")) &&
  decide (PySem.W.slotIn K (He.ma K (He.ga K "Counted") f) (He.ga K "Counted") = some i))))
def clB (K : PySem.W.Frag) : Bool :=
  PySem.W.plainGet K (He.ga K "Counted") Str.empty && (PySem.W.isClsIn K (He.ga K "Counted") && (PySem.W.plainOver K (He.ga K "Counted") &&
  He.eqO (PySem.W.findIn K (.ref (He.ga K "Counted")) "__setattr__") (some (some (.builtin "object.__setattr__")))))
def exB (K : PySem.W.Frag) : Bool := clB K && (slB K "its_table" 2 && (slB K "its_nodes" 0 && slB K "its_numbers" 1))
abbrev Al3 : Type := Bool × He.AlD
def obs3 (K : PySem.W.Frag) : Al3 := (exB K, He.obsD fa3 fn3 K)
def val3 : Al3 := (true, He.valD fn3)
def obs3G (g : Addr → Option Obj) : Al3 := obs3 (He.frG g (He.asD g 5))
abbrev hk3 : PySem.W.Hook where
  α := Al3
  obs := fun s => obs3G s.heap.get?
  val := fun _ => val3
  says := fun _ h => ∃ K : PySem.W.Frag, K.In h ∧ obs3 K = val3
  of := fun _ _ e => ⟨_, He.frG_in, e⟩
  keeps := fun _ _ _ ⟨K, hK, c⟩ k => ⟨K, PySem.W.Frag.In.keeps hK k, c⟩
def ob3 (s : PySem.W.SharedT) : Al3 := obs3G (HandSHeadRun.getT s)
theorem ob3_eq (s : PySem.W.SharedT) : ob3 s = hk3.obs s.abs := by
  have e : HandSHeadRun.getT s = s.abs.heap.get? := funext (HandSHeadRun.getT_eq s)
  show obs3G (HandSHeadRun.getT s) = obs3G s.abs.heap.get?
  rw [e]
abbrev R3 : PySem.W.OpenRow := PySem.W.OpenLaw.row row3
def lo1 : List Str := ["_wall", "nodes_in", "renumbered", "renumbered_program", "renumbered_reading", "least_programs", "made_kinds", "PinError", "TooMany", "MOST_READINGS", "Counted",
  "readings_many", "readings_of", "unread_node", "_law_bag", "_law_take", "_law_some", "_law_mixed", "_law_alike", "_law_signs", "_law_entry", "_law_told"]
def lo2 : List Str := ["_law_any_table", "_law_plain_table", "_law_chain_table", "_law_planted_table", "_law_table", "_law_made", "_law_size",
  "_law_put", "_law_grown", "_law_program", "_law_any_program", "_law_counted", "_law_listed", "_law_readings",
  "_law_joined", "_law_back", "_law_led_table", "_law_led_program", "_law_goes_along"]
def loose3 : List Str := lo1 ++ lo2
/-! ### the facts behind the top, by names -/
structure Tx (K : PySem.W.Frag) (mg : Str → Option Value) : Prop where
  c : He.SaysD fa3 fn3 K
  ex : exB K = true
  glo : ∀ x ∈ globs3, mg x = some (.ref (He.ga K x))
  fr : ∀ x ∈ frees3, mg x = none
theorem Tx.of {K : PySem.W.Frag} {h : Heap} {mg : Str → Option Value} (X : K.In h) (G : h.Ns mainGlobals mg) (e : obs3 K = val3) : Tx K mg := by
  have c : He.SaysD fa3 fn3 K := congrArg Prod.snd e
  have all : ∀ f ∈ fa3, f.ok K = true := fun f hf => by
    obtain ⟨i, hi⟩ := List.getElem?_of_mem hf
    exact c.fact i hi
  refine ⟨c, congrArg Prod.fst e, fun x hx => ?_, fun x hx => ?_⟩
  · exact He.glo_ok X G (all (.glo x) (by
      unfold fa3
      exact List.mem_append_left _ (List.mem_append_left _ (List.mem_append_left _ (List.mem_map_of_mem hx)))))
  · exact He.free_ok X G (all (.free x) (by
      unfold fa3
      exact List.mem_append_left _ (List.mem_append_left _ (List.mem_append_right _ (List.mem_map_of_mem hx)))))
theorem Tx.top {K : PySem.W.Frag} {mg : Str → Option Value} (t : Tx K mg) {x : Str} {j : Nat} (i : Nat) (h : fn3[i]? = some (dTop x j) := by rfl) (g : x ∈ globs3 := by decide +kernel) : ∃ f fd, FunD K x x (defArgs (K3.top j)) (defBody (K3.top j)) (defScope (K3.top j)) [] [] f fd ∧ mg x = some (.ref f) := by
  obtain ⟨fd, F⟩ := t.c.def_ i h
  exact ⟨He.ga K x, fd, F, t.glo x g⟩
theorem Tx.free {K : PySem.W.Frag} {mg : Str → Option Value} (t : Tx K mg) {x : Str} (h : x ∈ frees3 := by decide +kernel) : mg x = none := t.fr x h
end K3
end

section
set_option autoImplicit true
set_option Elab.async false
set_option linter.all false
set_option maxRecDepth 100000
set_option maxHeartbeats 0
namespace K3
open PySem PySem.Spec PyProof.Rows L2
theorem run3 (w : World) : HandSHeadRun.RunEq R3 (PySem.W.view R3.prog [47]) hk3 ob3 6000 loose3 w := by
  intro os
  kernel_rfl
end K3
end

section
set_option autoImplicit true
set_option Elab.async false
set_option linter.all false
set_option maxRecDepth 100000
set_option maxHeartbeats 1000000
/-! A logic of data over the hand layer: what stands in a slot is data (PyData), frozen or owned; addresses are hidden. -/
namespace K3
open PySem PySem.Spec PyProof.Rows L2
abbrev D := PyData
abbrev Ex := Evl.Ex

/-! ### data in a heap -/
/-- a tuple that is known to its object (without a dict of its own) -/
def Pt (F : Hp) (a : Addr) (xs : List V) : Prop := ∃ o : Obj, F a = some (.frz o (.tup xs)) ∧ o.cls = .type "tuple" ∧ o.dict = none
theorem Pt.mono {F F' : Hp} {a : Addr} {xs : List V} (e : Ex F F') : Pt F a xs → Pt F' a xs := fun ⟨o, h, q⟩ => ⟨o, e _ _ h, q⟩
theorem Pt.sq {K : PySem.W.Frag} {F : Hp} {a : Addr} {xs : List V} : Pt F a xs → SqT K F a xs := fun ⟨o, h, _⟩ => .inl (.inr ⟨o, h⟩)
mutual
inductive Is (K : PySem.W.Frag) (F : Hp) : V → D → Prop
  | non : Is K F .non .none
  | bl (b : Bool) : Is K F (.bl b) (.bool b)
  | int (i : Int) : Is K F (.int i) (.int i)
  | str (x : Str) : Is K F (.str x) (.str x)
  | lst {a : Addr} {xs : List V} {ds : List D} : F a = some (.lst xs) → IsA K F xs ds → Is K F (.ref a) (.list ds)
  | tup {a : Addr} {xs : List V} {ds : List D} : Pt F a xs → IsA K F xs ds → Is K F (.ref a) (.tuple ds)
  | dic {a : Addr} {kvs : List (Key × V)} {ks : List (Int × D)} : (∃ o, F a = some (.frz o (.dK kvs))) → IsK K F kvs ks → Is K F (.ref a) (.dict (ks.map fun p : Int × D => (PyData.int p.1, p.2)))
inductive IsA (K : PySem.W.Frag) (F : Hp) : List V → List D → Prop
  | nil : IsA K F [] []
  | cons {v : V} {vs : List V} {d : D} {ds : List D} : Is K F v d → IsA K F vs ds → IsA K F (v :: vs) (d :: ds)
inductive IsK (K : PySem.W.Frag) (F : Hp) : List (Key × V) → List (Int × D) → Prop
  | nil : IsK K F [] []
  | cons {k : Int} {v : V} {kvs : List (Key × V)} {d : D} {ks : List (Int × D)} : Is K F v d → IsK K F kvs ks → IsK K F ((Sum.inl k, v) :: kvs) ((k, d) :: ks)
end
section
variable {K : PySem.W.Frag} {F F' : Hp}
mutual
theorem Is.mono (e : Ex F F') : ∀ {v : V} {d : D}, Is K F v d → Is K F' v d
  | _, _, .non => .non
  | _, _, .bl b => .bl b
  | _, _, .int i => .int i
  | _, _, .str x => .str x
  | _, _, .lst h a => .lst (e _ _ h) (IsA.mono e a)
  | _, _, .tup h a => .tup (h.mono e) (IsA.mono e a)
  | _, _, .dic ⟨o, h⟩ a => .dic ⟨o, e _ _ h⟩ (IsK.mono e a)
theorem IsA.mono (e : Ex F F') : ∀ {vs : List V} {ds : List D}, IsA K F vs ds → IsA K F' vs ds
  | _, _, .nil => .nil
  | _, _, .cons h t => .cons (Is.mono e h) (IsA.mono e t)
theorem IsK.mono (e : Ex F F') : ∀ {vs : List (Key × V)} {ds : List (Int × D)}, IsK K F vs ds → IsK K F' vs ds
  | _, _, .nil => .nil
  | _, _, .cons h t => .cons (Is.mono e h) (IsK.mono e t)
end
theorem IsA.length : ∀ {vs : List V} {ds : List D}, IsA K F vs ds → vs.length = ds.length
  | _, _, .nil => rfl
  | _, _, .cons _ t => by rw [List.length_cons, List.length_cons, IsA.length t]
theorem IsA.get : ∀ {vs : List V} {ds : List D} {i : Nat} {d : D}, IsA K F vs ds → ds[i]? = some d → ∃ v, vs[i]? = some v ∧ Is K F v d
  | _, _, _, _, .nil, h => by simp at h
  | _, _, 0, _, .cons h _, e => by
    simp at e
    subst e
    exact ⟨_, rfl, h⟩
  | _, _, i + 1, _, .cons _ t, e => by
    obtain ⟨v, h1, h2⟩ := IsA.get (i := i) t (by simpa using e)
    exact ⟨v, by simpa using h1, h2⟩
theorem IsA.getV : ∀ {vs : List V} {ds : List D} {i : Nat} {v : V}, IsA K F vs ds → vs[i]? = some v → ∃ d, ds[i]? = some d ∧ Is K F v d
  | _, _, _, _, .nil, h => by simp at h
  | _, _, 0, _, .cons h _, e => by
    simp at e
    subst e
    exact ⟨_, rfl, h⟩
  | _, _, i + 1, _, .cons _ t, e => by
    obtain ⟨v, h1, h2⟩ := IsA.getV (i := i) t (by simpa using e)
    exact ⟨v, by simpa using h1, h2⟩
theorem IsA.append : ∀ {vs ws : List V} {ds es : List D}, IsA K F vs ds → IsA K F ws es → IsA K F (vs ++ ws) (ds ++ es)
  | _, _, _, _, .nil, h => h
  | _, _, _, _, .cons h t, q => .cons h (IsA.append t q)
theorem IsA.take : ∀ {vs : List V} {ds : List D} (n : Nat), IsA K F vs ds → IsA K F (vs.take n) (ds.take n)
  | _, _, 0, _ => by simpa using IsA.nil
  | _, _, _ + 1, .nil => by simpa using IsA.nil
  | _, _, n + 1, .cons h t => by simpa using IsA.cons h (IsA.take n t)
theorem IsA.drop : ∀ {vs : List V} {ds : List D} (n : Nat), IsA K F vs ds → IsA K F (vs.drop n) (ds.drop n)
  | _, _, 0, h => by simpa using h
  | _, _, _ + 1, .nil => by simpa using IsA.nil
  | _, _, n + 1, .cons _ t => by simpa using IsA.drop n t
theorem IsA.set {v : V} {d : D} (h : Is K F v d) : ∀ {vs : List V} {ds : List D} (i : Nat), IsA K F vs ds → IsA K F (vs.set i v) (ds.set i d)
  | _, _, _, .nil => .nil
  | _, _, 0, .cons _ t => .cons h t
  | _, _, i + 1, .cons q t => .cons q (IsA.set h i t)
theorem IsA.replicate {v : V} {d : D} (h : Is K F v d) : ∀ n : Nat, IsA K F (List.replicate n v) (List.replicate n d)
  | 0 => .nil
  | n + 1 => .cons h (IsA.replicate h n)
theorem IsA.ints : ∀ {vs : List V} {ns : List Int}, IsA K F vs (ns.map PyData.int) → vs = ns.map V.int
  | _, [], h => by
    have h' : IsA K F _ [] := h
    cases h'
    rfl
  | _, n :: ns, h => by
    have h' : IsA K F _ (.int n :: ns.map PyData.int) := h
    cases h' with
    | cons a b =>
      cases a
      rw [IsA.ints b]
      rfl
theorem IsA.of_ints : ∀ ns : List Int, IsA K F (ns.map V.int) (ns.map PyData.int)
  | [] => .nil
  | n :: ns => .cons (.int n) (IsA.of_ints ns)
theorem IsA.bools : ∀ {vs : List V} {ns : List Bool}, IsA K F vs (ns.map PyData.bool) → vs = ns.map V.bl
  | _, [], h => by
    have h' : IsA K F _ [] := h
    cases h'
    rfl
  | _, n :: ns, h => by
    have h' : IsA K F _ (.bool n :: ns.map PyData.bool) := h
    cases h' with
    | cons a b =>
      cases a
      rw [IsA.bools b]
      rfl
mutual
/-- without dicts it is the hand layer's own word -/
theorem Is.dp : ∀ {v : V} {d : D}, d.hasDict = false → Is K F v d → Dp K F v d
  | _, _, _, .non => .non
  | _, _, _, .bl b => .bl b
  | _, _, _, .int i => .int i
  | _, _, _, .str x => .str x
  | _, _, n, .lst h a => .lst (SqL.of h) (IsA.dp (by simpa [PyData.hasDict] using n) a)
  | _, _, n, .tup h a => .tup h.sq (IsA.dp (by simpa [PyData.hasDict] using n) a)
  | _, _, n, .dic h a => by simp [PyData.hasDict] at n
theorem IsA.dp : ∀ {vs : List V} {ds : List D}, PyData.hasDictAll ds = false → IsA K F vs ds → DpAll K F vs ds
  | _, _, _, .nil => .nil
  | _, _, n, .cons h t => by
    have n' := n
    simp only [PyData.hasDictAll, Bool.or_eq_false_iff] at n'
    exact .cons (Is.dp n'.1 h) (IsA.dp n'.2 t)
end
end

/-! ### parts of the heap, by owners: 0 is frozen, n + 1 belongs to slot n -/
def pt (ow : Addr → Nat) (n : Nat) (H : Hp) : Hp := fun a => if ow a = n then H a else none
abbrev fz (ow : Addr → Nat) (H : Hp) : Hp := pt ow 0 H
/-- what is new is frozen -/
def nw (ow : Addr → Nat) (H : Hp) : Addr → Nat := fun a => match H a with
  | none => 0
  | some _ => ow a
/-- F grown by what is new behind H -/
def cut (F H H' : Hp) : Hp := fun a => match H a, F a with
  | some _, none => none
  | _, _ => H' a
section
variable {ow : Addr → Nat} {F H H' H'' : Hp} {a : Addr} {o : HO} {n : Nat}
theorem pt_some (h : pt ow n H a = some o) : H a = some o ∧ ow a = n := by
  unfold pt at h
  by_cases e : ow a = n
  · rw [if_pos e] at h
    exact ⟨h, e⟩
  · rw [if_neg e] at h
    cases h
theorem pt_of (e : ow a = n) (h : H a = some o) : pt ow n H a = some o := by
  unfold pt
  rw [if_pos e, h]
theorem pt_le : Ex (pt ow n H) H := fun _ _ h => (pt_some h).1
theorem nw_new (h : H a = none) : nw ow H a = 0 := by
  unfold nw
  rw [h]
theorem nw_old (h : H a = some o) : nw ow H a = ow a := by
  unfold nw
  rw [h]
theorem pt_nw (e : Ex H H') : pt (nw ow H) (n + 1) H' = pt ow (n + 1) H := by
  funext a
  unfold pt
  cases h : H a with
  | none =>
    rw [nw_new h, if_neg (Nat.succ_ne_zero n).symm]
    split <;> rfl
  | some o => rw [nw_old h, e a o h]
theorem fz_nw : fz (nw ow H) H' = cut (fz ow H) H H' := by
  funext a
  unfold cut fz pt
  cases h : H a with
  | none => rw [nw_new h, if_pos rfl]
  | some o =>
    rw [nw_old h]
    by_cases e : ow a = 0
    · rw [if_pos e, if_pos e]
    · rw [if_neg e, if_neg e]
theorem fz_le (e : Ex H H') : Ex (fz ow H) (fz (nw ow H) H') := fun a o h => by
  obtain ⟨h1, h2⟩ := pt_some h
  exact pt_of ((nw_old h1).trans h2) (e a o h1)
theorem cut_le (f : Ex F H) (e : Ex H H') : Ex F (cut F H H') := fun a o h => by
  unfold cut
  rw [h]
  cases q : H a with
  | none => exact e a o (f a o h)
  | some u => exact e a o (f a o h)
theorem cut_new (h : H a = none) : cut F H H' a = H' a := by
  unfold cut
  rw [h]
theorem cut_old (h : F a = some o) : cut F H H' a = H' a := by
  unfold cut
  rw [h]
  cases H a <;> rfl
theorem cut_mono (e : Ex H' H'') : Ex (cut F H H') (cut F H H'') := fun a o h => by
  unfold cut at h ⊢
  cases q : H a with
  | none =>
    rw [q] at h
    exact e a o h
  | some u =>
    rw [q] at h
    cases r : F a with
    | none =>
      rw [r] at h
      cases h
    | some v =>
      rw [r] at h
      exact e a o h
/-- what is cut twice -/
theorem cut_cut (e : Ex H H') : Ex (cut (cut F H H') H' H'') (cut F H H'') := fun a o h => by
  unfold cut at h ⊢
  cases q : H a with
  | none =>
    rw [q] at h
    cases r : H' a with
    | none =>
      rw [r] at h
      exact h
    | some v =>
      rw [r] at h
      exact h
  | some u =>
    have q' := e a u q
    rw [q, q'] at h
    cases r : F a with
    | none =>
      rw [r] at h
      cases h
    | some v =>
      rw [r] at h
      exact h
end

/-! ### what a slot holds -/
/-- of the frozen part, of the slot's own part, of the value -/
structure Sv (K : PySem.W.Frag) where
  ok : Hp → Hp → Option V → Prop
  mono : ∀ {F F' G G' : Hp} {v : Option V}, Ex F F' → Ex G G' → ok F G v → ok F' G' v
namespace Sv
variable {K : PySem.W.Frag}
/-- anything -/
def no : Sv K := ⟨fun _ _ _ => True, fun _ _ _ => trivial⟩
/-- frozen data -/
def dat (d : D) : Sv K := ⟨fun F _ v => ∃ u, v = some u ∧ Is K F u d, fun e _ ⟨u, h1, h2⟩ => ⟨u, h1, h2.mono e⟩⟩
/-- a list of its own -/
def own (xs : List D) : Sv K := ⟨fun F G v => ∃ l vs, v = some (.ref l) ∧ G l = some (.lst vs) ∧ IsA K F vs xs, fun e g ⟨l, vs, h1, h2, h3⟩ => ⟨l, vs, h1, g _ _ h2, h3.mono e⟩⟩
/-- a dict of its own, keys ints -/
def odicP (K : PySem.W.Frag) (ks : List (Int × D)) (F G : Hp) (v : Option V) : Prop := ∃ (l : Addr) (kvs : List (Key × V)), v = some (.ref l) ∧ G l = some (.dK kvs) ∧ IsK K F kvs ks
def odic (ks : List (Int × D)) : Sv K := ⟨odicP K ks, fun e g h => by
  obtain ⟨l, kvs, h1, h2, h3⟩ := h
  exact ⟨l, kvs, h1, g _ _ h2, h3.mono e⟩⟩
end Sv

/-- from one state to the next: what is frozen stays, what belongs to none of n slots stays -/
structure Stp (n : Nat) (ow : Addr → Nat) (H : Hp) (ow' : Addr → Nat) (H' : Hp) : Prop where
  fz : Ex (fz ow H) (fz ow' H')
  fr : ∀ m, n < m → Ex (pt ow m H) (pt ow' m H')
  dm : ∀ a, H' a = none → H a = none
theorem ex_dom {H H' : Hp} (e : Ex H H') (a : Addr) (h : H' a = none) : H a = none := by
  cases q : H a with
  | none => rfl
  | some o =>
    rw [e a o q] at h
    cases h
theorem Stp.refl (n : Nat) (ow : Addr → Nat) (H : Hp) : Stp n ow H ow H := ⟨Evl.Ex.refl _, fun _ _ => Evl.Ex.refl _, fun _ h => h⟩
theorem Stp.trans {n : Nat} {ow ow1 ow2 : Addr → Nat} {H H1 H2 : Hp} (a : Stp n ow H ow1 H1) (b : Stp n ow1 H1 ow2 H2) : Stp n ow H ow2 H2 := ⟨a.fz.trans b.fz, fun m h => (a.fr m h).trans (b.fr m h), fun x h => a.dm x (b.dm x h)⟩
theorem Stp.ext {n : Nat} {ow : Addr → Nat} {H H' : Hp} (e : Ex H H') : Stp n ow H (nw ow H) H' := ⟨fz_le e, fun m h => by
  obtain ⟨k, rfl⟩ : ∃ k, m = k + 1 := ⟨m - 1, by omega⟩
  rw [pt_nw e]
  exact Evl.Ex.refl _, ex_dom e⟩
abbrev Sto (K : PySem.W.Frag) := List (Sv K)
structure Std (K : PySem.W.Frag) (ow : Addr → Nat) (H : Hp) (σ : L2.St) (S : Sto K) : Prop where
  len : S.length = σ.length
  sl : ∀ (i : Nat) (s : Sv K), S[i]? = some s → s.ok (fz ow H) (pt ow (i + 1) H) (σ[i]?.join)
def dicD (ks : List (Int × D)) : D := .dict (ks.map fun p : Int × D => (PyData.int p.1, p.2))
section
variable {K : PySem.W.Frag} {ow ow' : Addr → Nat} {H H' F : Hp} {σ : L2.St} {S : Sto K}
theorem Std.ext (st : Std K ow H σ S) (e : Ex H H') : Std K (nw ow H) H' σ S :=
  ⟨st.len, fun i s h => by
    rw [pt_nw e]
    exact s.mono (fz_le e) (Evl.Ex.refl _) (st.sl i s h)⟩
/-- a slot's data -/
theorem Std.dat (st : Std K ow H σ S) {i : Nat} {d : D} (h : S[i]? = some (.dat d)) : ∃ v, σ[i]? = some (some v) ∧ Is K (fz ow H) v d := by
  obtain ⟨u, e, q⟩ := st.sl i _ h
  refine ⟨u, ?_, q⟩
  cases r : σ[i]? with
  | none =>
    rw [r] at e
    cases e
  | some z =>
    rw [r] at e
    have e' : z = some u := e
    rw [e']
theorem Std.own (st : Std K ow H σ S) {i : Nat} {xs : List D} (h : S[i]? = some (.own xs)) : ∃ l vs, σ[i]? = some (some (.ref l)) ∧ H l = some (.lst vs) ∧ ow l = i + 1 ∧ IsA K (fz ow H) vs xs := by
  obtain ⟨l, vs, e, g, q⟩ := st.sl i _ h
  obtain ⟨g1, g2⟩ := pt_some g
  refine ⟨l, vs, ?_, g1, g2, q⟩
  cases r : σ[i]? with
  | none =>
    rw [r] at e
    cases e
  | some z =>
    rw [r] at e
    have e' : z = some (.ref l) := e
    rw [e']
theorem Std.odic (st : Std K ow H σ S) {i : Nat} {ks : List (Int × D)} (h : S[i]? = some (.odic ks)) :
    ∃ l kvs, σ[i]? = some (some (.ref l)) ∧ H l = some (.dK kvs) ∧ ow l = i + 1 ∧ IsK K (fz ow H) kvs ks := by
  obtain ⟨l, kvs, e, g, q⟩ := st.sl i _ h
  obtain ⟨g1, g2⟩ := pt_some g
  refine ⟨l, kvs, ?_, g1, g2, q⟩
  cases r : σ[i]? with
  | none =>
    rw [r] at e
    cases e
  | some z =>
    rw [r] at e
    have e' : z = some (.ref l) := e
    rw [e']
/-- a slot takes new frozen data -/
theorem Std.set (st : Std K ow H σ S) {i : Nat} {v : V} {d : D} (hi : i < S.length) (q : Is K (fz ow H) v d) : Std K ow H (σ.set i (some v)) (S.set i (.dat d)) := by
  refine ⟨by rw [List.length_set, List.length_set]; exact st.len, fun j s h => ?_⟩
  by_cases e : j = i
  · subst e
    rw [List.getElem?_set_self (by omega)] at h
    cases h
    have hl : j < σ.length := by have := st.len; omega
    rw [List.getElem?_set_self hl]
    exact ⟨v, rfl, q⟩
  · rw [List.getElem?_set_ne (Ne.symm e)] at h ⊢
    exact st.sl j s h
/-- what a slot holds is forgotten -/
theorem Std.drop (st : Std K ow H σ S) {i : Nat} : Std K ow H σ (S.set i .no) := by
  refine ⟨by rw [List.length_set]; exact st.len, fun j s h => ?_⟩
  by_cases e : j = i
  · subst e
    by_cases hl : j < S.length
    · rw [List.getElem?_set_self hl] at h
      cases h
      exact trivial
    · rw [List.getElem?_eq_none_iff.mpr (by rw [List.length_set]; omega)] at h
      cases h
  · rw [List.getElem?_set_ne (Ne.symm e)] at h
    exact st.sl j s h
/-- a slot's own parts are frozen, what it holds is data from then on -/
theorem Std.freezeG (st : Std K ow H σ S) {i : Nat} {s0 : Sv K} {d : D} (h : S[i]? = some s0) (hk : ∀ ow', (∀ a, ow a = i + 1 → ow' a = 0) → Ex (fz ow H) (fz ow' H) → s0.ok (fz ow H) (pt ow (i + 1) H) (σ[i]?.join) → (Sv.dat d : Sv K).ok (fz ow' H) (pt ow' (i + 1) H) (σ[i]?.join)) :
    ∃ ow', Std K ow' H σ (S.set i (.dat d)) ∧ Stp S.length ow H ow' H := by
  have hx : Ex (fz ow H) (fz (fun a => if ow a = i + 1 then 0 else ow a) H) := fun a u z => by
    obtain ⟨z1, z2⟩ := pt_some z
    refine pt_of ?_ z1
    show (if ow a = i + 1 then 0 else ow a) = 0
    rw [if_neg (by omega)]
    exact z2
  have hl : i < S.length := (List.getElem?_eq_some_iff.mp h).1
  refine ⟨fun a => if ow a = i + 1 then 0 else ow a, ⟨by rw [List.length_set]; exact st.len, fun j s hs => ?_⟩, hx, fun m hm a u z => ?_, fun _ z => z⟩
  · by_cases ej : j = i
    · subst ej
      rw [List.getElem?_set_self hl] at hs
      cases hs
      exact hk _ (fun a ha => if_pos ha) hx (st.sl j s0 h)
    · rw [List.getElem?_set_ne (Ne.symm ej)] at hs
      have z := st.sl j s hs
      have ep : pt (fun a => if ow a = i + 1 then 0 else ow a) (j + 1) H = pt ow (j + 1) H := by
        funext a
        unfold pt
        show (if (if ow a = i + 1 then 0 else ow a) = j + 1 then H a else none) = if ow a = j + 1 then H a else none
        by_cases c : ow a = i + 1
        · rw [if_pos c, if_neg (by omega), if_neg (by omega)]
        · rw [if_neg c]
      rw [ep]
      exact s.mono hx (Evl.Ex.refl _) z
  · obtain ⟨z1, z2⟩ := pt_some z
    refine pt_of ?_ z1
    show (if ow a = i + 1 then 0 else ow a) = m
    rw [if_neg (by omega)]
    exact z2
theorem Std.freeze (st : Std K ow H σ S) {i : Nat} {xs : List D} (h : S[i]? = some (.own xs)) : ∃ ow', Std K ow' H σ (S.set i (.dat (.list xs))) ∧ Stp S.length ow H ow' H :=
  st.freezeG h fun ow' ho hx ⟨l, vs, e, g, q⟩ => by
    obtain ⟨g1, g2⟩ := pt_some g
    exact ⟨.ref l, e, .lst (pt_of (ho l g2) g1) (q.mono hx)⟩
end
end K3
end

section
set_option autoImplicit true
set_option Elab.async false
set_option linter.all false
set_option maxRecDepth 100000
set_option maxHeartbeats 1000000
/-! Expressions over data. -/
namespace K3
open PySem PySem.Spec PyProof.Rows L2

/-! ### the semantic readings of the hand layer's judgements -/
section
variable (X : Cx)
structure WE (e : Expr) (σ : L2.St) (H : Hp) (Q : VK) : Prop where
  r : ∀ (pins : List (Addr × Obj)) (s : Shared), Inv X pins σ H s → wpAny (model X.prog X.w) X.A (eval e X.env) (EP X pins σ Q) X.xe s
structure WAr (es : List Expr) (σ : L2.St) (H : Hp) (Q : List V → Hp → Prop) : Prop where
  r : ∀ (pos : Pos) (pins : List (Addr × Obj)) (s : Shared), Inv X pins σ H s → wpAny (model X.prog X.w) X.A (spliced (backTo pos (starEach es X.env))) (AP X pins σ Q) X.xe s
structure WTr (e : Expr) (σ : L2.St) (H : Hp) (Q : Bool → Hp → Prop) : Prop where
  r : ∀ (pins : List (Addr × Obj)) (s : Shared), Inv X pins σ H s → wpAny (model X.prog X.w) X.A (isTrue e X.env (eval e X.env)) (TP X pins σ Q) X.xe s
structure WWr (e : Expr) (σ : L2.St) (H : Hp) (Q : Bool → Hp → Prop) : Prop where
  r : ∀ (whole : Sem Value) (pins : List (Addr × Obj)) (s : Shared), Inv X pins σ H s → wpAny (model X.prog X.w) X.A (isTrue e X.env whole) (TP X pins σ Q) X.xe s
def opW (f : Value → Value → Sem Value) : R2 := fun x y H Q => ∀ (pins : List (Addr × Obj)) (s : Shared) (σ : L2.St) (v u : Value), Inv X pins σ H s → RelV x v → RelV y u → wpAny (model X.prog X.w) X.A (f v u) (EP X pins σ Q) X.xe s
def ixW : R2 := fun x y H Q => ∀ (value slice : Expr) (pins : List (Addr × Obj)) (s : Shared) (σ : L2.St) (v u : Value), Inv X pins σ H s → RelV x v → RelV y u →
  subscripted slice false v u = operate [v, u] (getItem v u) → wpAny (model X.prog X.w) X.A (subscriptTail value slice v u) (EP X pins σ Q) X.xe s
def clW (f : Value) : List V → Hp → VK → Prop := fun xs H Q => ∀ (pins : List (Addr × Obj)) (s : Shared) (σ : L2.St) (us : List Value), Inv X pins σ H s → Vals xs us → wpAny (model X.prog X.w) X.A (call f us) (EP X pins σ Q) X.xe s
def slW : V → Option Int → Option Int → Hp → VK → Prop := fun x lo hi H Q => ∀ (pins : List (Addr × Obj)) (s : Shared) (σ : L2.St) (v vl vu : Value) (sl : Addr), Inv X pins σ H s → RelV x v → s.heap.IsSliceOf sl vl vu .none → IsPart vl lo → IsPart vu hi →
  ∃ T id, typeLookup (.type T) "__getitem__" = pure (some (.builtin id)) ∧ s.TypeIs v T ∧ wpAny (model X.prog X.w) X.A (getItem v (.ref sl)) (EP X pins σ Q) X.xe s
variable {X}
theorem pe_W {e : Expr} : PE X e (WE X e) := ⟨fun pins s _ _ _ I h => h.r pins s I⟩
theorem pa_W {es : List Expr} : PA X es (WAr X es) := ⟨fun pos pins s _ _ _ I h => h.r pos pins s I⟩
theorem pt_W {e : Expr} : PT X e (WTr X e) := ⟨fun pins s _ _ _ I h => h.r pins s I⟩
theorem pw_W {e : Expr} : PW X e (WWr X e) := ⟨fun wh pins s _ _ _ I h => h.r wh pins s I⟩
theorem op_W {f : Value → Value → Sem Value} : OpR X f (opW X f) := fun pins s σ H x y v u Q I rx ry h => h pins s σ v u I rx ry
theorem ix_W : IxR X (ixW X) := fun value slice pins s σ H x y v u Q I rx ry h hs => h value slice pins s σ v u I rx ry hs
theorem cl_W {f : Value} : CallR X f (clW X f) := fun pins s σ H xs us Q I r h => h pins s σ us I r
theorem sl_W : SlR X (slW X) := fun pins s σ H x v vl vu lo hi sl Q I rx hs pl pu h => h pins s σ v vl vu sl I rx hs pl pu
theorem PE.we {e : Expr} {t : TE} {σ : L2.St} {H : Hp} {Q : VK} (h : PE X e t) (q : t σ H Q) : WE X e σ H Q := ⟨fun pins s I => h.run pins s σ H Q I q⟩
theorem PA.we {es : List Expr} {t : TA} {σ : L2.St} {H : Hp} {Q : List V → Hp → Prop} (h : PA X es t) (q : t σ H Q) : WAr X es σ H Q := ⟨fun pos pins s I => h.run pos pins s σ H Q I q⟩
theorem PT.we {e : Expr} {t : TT} {σ : L2.St} {H : Hp} {Q : Bool → Hp → Prop} (h : PT X e t) (q : t σ H Q) : WTr X e σ H Q := ⟨fun pins s I => h.run pins s σ H Q I q⟩
theorem PW.we {e : Expr} {t : TT} {σ : L2.St} {H : Hp} {Q : Bool → Hp → Prop} (h : PW X e t) (q : t σ H Q) : WWr X e σ H Q := ⟨fun wh pins s I => h.run wh pins s σ H Q I q⟩
end

/-! ### the judgements over data -/
def Kd (K : PySem.W.Frag) (S : Sto K) (σ : L2.St) (ow : Addr → Nat) (H : Hp) (Q : D → Prop) (Q' : VK) : Prop :=
  ∀ (d : D) (v : V) (ow' : Addr → Nat) (H' : Hp), Q d → Std K ow' H' σ S → Stp S.length ow H ow' H' → Is K (fz ow' H') v d → Q' v H'
def Ka (K : PySem.W.Frag) (S : Sto K) (σ : L2.St) (ow : Addr → Nat) (H : Hp) (Q : List D → Prop) (Q' : List V → Hp → Prop) : Prop :=
  ∀ (ds : List D) (vs : List V) (ow' : Addr → Nat) (H' : Hp), Q ds → Std K ow' H' σ S → Stp S.length ow H ow' H' → IsA K (fz ow' H') vs ds → Q' vs H'
def Kt (K : PySem.W.Frag) (S : Sto K) (σ : L2.St) (ow : Addr → Nat) (H : Hp) (Q : Bool → Prop) (Q' : Bool → Hp → Prop) : Prop :=
  ∀ (b : Bool) (ow' : Addr → Nat) (H' : Hp), Q b → Std K ow' H' σ S → Stp S.length ow H ow' H' → Q' b H'
/-- e evaluates to data of which Q holds -/
def W (X : Cx) (e : Expr) (S : Sto X.K) (Q : D → Prop) : Prop := ∀ (ow : Addr → Nat) (H : Hp) (σ : L2.St) (Q' : VK), Std X.K ow H σ S → Kd X.K S σ ow H Q Q' → WE X e σ H Q'
def WA (X : Cx) (es : List Expr) (S : Sto X.K) (Q : List D → Prop) : Prop := ∀ (ow : Addr → Nat) (H : Hp) (σ : L2.St) (Q' : List V → Hp → Prop), Std X.K ow H σ S → Ka X.K S σ ow H Q Q' → WAr X es σ H Q'
def WT (X : Cx) (e : Expr) (S : Sto X.K) (Q : Bool → Prop) : Prop := ∀ (ow : Addr → Nat) (H : Hp) (σ : L2.St) (Q' : Bool → Hp → Prop), Std X.K ow H σ S → Kt X.K S σ ow H Q Q' → WTr X e σ H Q'
def WW (X : Cx) (e : Expr) (S : Sto X.K) (Q : Bool → Prop) : Prop := ∀ (ow : Addr → Nat) (H : Hp) (σ : L2.St) (Q' : Bool → Hp → Prop), Std X.K ow H σ S → Kt X.K S σ ow H Q Q' → WWr X e σ H Q'
/-- the end of an operation on values -/
def Ke (K : PySem.W.Frag) (F H : Hp) (Q : D → Prop) (Q' : VK) : Prop := ∀ (d : D) (v : V) (H' : Hp), Q d → Ex H H' → Is K (cut F H H') v d → Q' v H'
def OD (X : Cx) (f : Value → Value → Sem Value) (d1 d2 : D) (Q : D → Prop) : Prop := ∀ (F H : Hp) (x y : V) (Q' : VK), Ex F H → Is X.K F x d1 → Is X.K F y d2 → Ke X.K F H Q Q' → opW X f x y H Q'
def XD (X : Cx) (d1 d2 : D) (Q : D → Prop) : Prop := ∀ (F H : Hp) (x y : V) (Q' : VK), Ex F H → Is X.K F x d1 → Is X.K F y d2 → Ke X.K F H Q Q' → ixW X x y H Q'
def CD (X : Cx) (f : Value) (ds : List D) (Q : D → Prop) : Prop := ∀ (F H : Hp) (xs : List V) (Q' : VK), Ex F H → IsA X.K F xs ds → Ke X.K F H Q Q' → clW X f xs H Q'
def SD (X : Cx) (d : D) (lo hi : Option Int) (Q : D → Prop) : Prop := ∀ (F H : Hp) (x : V) (Q' : VK), Ex F H → Is X.K F x d → Ke X.K F H Q Q' → slW X x lo hi H Q'

section
variable {K : PySem.W.Frag} {F H : Hp} {Q : D → Prop} {Q' : VK}
/-- the end, nothing new -/
theorem Ke.here (k : Ke K F H Q Q') (f : Ex F H) {d : D} {v : V} (q : Q d) (i : Is K F v d) : Q' v H := k d v H q (Evl.Ex.refl H) (i.mono (cut_le f (Evl.Ex.refl H)))
theorem Ke.int (k : Ke K F H Q Q') {i : Int} (q : Q (.int i)) : Q' (.int i) H := k _ _ H q (Evl.Ex.refl H) (.int i)
theorem Ke.bool (k : Ke K F H Q Q') {i : Bool} (q : Q (.bool i)) : Q' (.bl i) H := k _ _ H q (Evl.Ex.refl H) (.bl i)
/-- .. a new list -/
theorem Ke.lst (k : Ke K F H Q Q') (f : Ex F H) {p : Addr} {vs : List V} {ds : List D} (hp : H p = none) (q : Q (.list ds)) (i : IsA K F vs ds) : Q' (.ref p) (upd H p (.lst vs)) :=
  k _ _ _ q (Evl.Ex.new hp) (.lst (by rw [cut_new hp]; exact upd_same) (i.mono (cut_le f (Evl.Ex.new hp))))
/-- .. a new tuple -/
theorem Ke.tup (k : Ke K F H Q Q') (f : Ex F H) {p : Addr} {vs : List V} {ds : List D} {o : Obj} (ho : o.cls = .type "tuple" ∧ o.dict = none) (hp : H p = none) (q : Q (.tuple ds)) (i : IsA K F vs ds) : Q' (.ref p) (upd H p (.frz o (.tup vs))) :=
  k _ _ _ q (Evl.Ex.new hp) (.tup ⟨o, by rw [cut_new hp]; exact upd_same, ho⟩ (i.mono (cut_le f (Evl.Ex.new hp))))
end
section
variable {X : Cx} {S : Sto X.K} {Q R : D → Prop} {e a b c : Expr} {es : List Expr} {pos : Pos}
theorem W.mono (h : W X e S Q) (k : ∀ d, Q d → R d) : W X e S R := fun ow H σ Q' st kk => h ow H σ Q' st fun d v ow' H' q => kk d v ow' H' (k d q)
theorem WT.mono {Q R : Bool → Prop} (h : WT X e S Q) (k : ∀ d, Q d → R d) : WT X e S R := fun ow H σ Q' st kk => h ow H σ Q' st fun d ow' H' q => kk d ow' H' (k d q)

/-! ### names, constants -/
theorem w_var (i : Nat) {x : Str} {d : D} (hS : S[i]? = some (.dat d)) (q : Q d) (hN : X.N[i]? = some x := by rfl) (hv : Vis X.env.scope x := by first | exact Or.inl rfl | exact Or.inr (Or.inl rfl) | exact Or.inr (Or.inr rfl))
    (hd : (x == ("__debug__" : Str)) = false := by decide) (hcd : (x == ("__classdict__" : Str)) = false := by decide) : W X (.Name x pos) S Q := fun ow H σ Q' st k => by
  obtain ⟨v, e, i1⟩ := st.dat hS
  exact PE.we (pe_var hN hv hd hcd) ⟨v, e, k d v ow H q st (Stp.refl _ _ _) i1⟩
theorem w_int {i : Int} {j' pos} (q : Q (.int i)) : W X (.Constant (.int i) j' pos) S Q := fun ow H σ Q' st k => PE.we pe_int (k _ _ ow H q st (Stp.refl _ _ _) (.int i))
theorem w_bool {i : Bool} {j pos} (q : Q (.bool i)) : W X (.Constant (.bool i) j pos) S Q := fun ow H σ Q' st k => PE.we pe_bl (k _ _ ow H q st (Stp.refl _ _ _) (.bl i))
theorem w_none {j pos} (q : Q .none) : W X (.Constant .none j pos) S Q := fun ow H σ Q' st k => PE.we pe_non (k _ _ ow H q st (Stp.refl _ _ _) .non)
theorem w_glob {x : Str} {i : Int} {t : Tok} (hm : X.mg x = some (.int i t)) (q : Q (.int i)) (hg : Gl X x := by rfl) (hd : (x == ("__debug__" : Str)) = false := by decide) : W X (.Name x pos) S Q := fun ow H σ Q' st k =>
  PE.we (pe_glob (v := .int i) hg hm ⟨t, rfl⟩ hd) (k _ _ ow H q st (Stp.refl _ _ _) (.int i))

/-! ### operators -/
theorem w_op {op : Operator} (h : W X a S fun d1 => W X b S fun d2 => OD X (binaryOp op) d1 d2 Q) : W X (.BinOp a op b pos) S Q := fun ow H σ Q' st k => by
  refine PE.we (pe_op op_W pe_W pe_W) ?_
  refine h ow H σ _ st fun d1 v1 ow1 H1 h1 st1 e1 i1 => ?_
  refine h1 ow1 H1 σ _ st1 fun d2 v2 ow2 H2 h2 st2 e2 i2 => ?_
  exact h2 (fz ow2 H2) H2 v1 v2 Q' pt_le (i1.mono e2.fz) i2 fun d v H' q e i => k d v (nw ow2 H2) H' q (st2.ext e) (e1.trans (e2.trans (.ext e))) (by rw [fz_nw]; exact i)
theorem w_cmp {op : CmpOp} (h : W X a S fun d1 => W X b S fun d2 => OD X (compareOp op) d1 d2 Q) (hm : behindInMarks op b = false := by first | exact nomark _ | rfl) : W X (.Compare a [op] [b] pos) S Q := fun ow H σ Q' st k => by
  refine PE.we (pe_cmpR op_W pe_W pe_W hm) ?_
  refine h ow H σ _ st fun d1 v1 ow1 H1 h1 st1 e1 i1 => ?_
  refine h1 ow1 H1 σ _ st1 fun d2 v2 ow2 H2 h2 st2 e2 i2 => ?_
  exact h2 (fz ow2 H2) H2 v1 v2 Q' pt_le (i1.mono e2.fz) i2 fun d v H' q e i => k d v (nw ow2 H2) H' q (st2.ext e) (e1.trans (e2.trans (.ext e))) (by rw [fz_nw]; exact i)
theorem wt_cmp {op : CmpOp} {Q : Bool → Prop} (h : W X a S fun d1 => W X b S fun d2 => OD X (compareOp op) d1 d2 fun d => ∃ t, d = .bool t ∧ Q t) (hm : behindInMarks op b = false := by first | exact nomark _ | rfl) : WT X (.Compare a [op] [b] pos) S Q := fun ow H σ Q' st k => by
  refine PT.we (pt_cmpR op_W pe_W pe_W hm) ?_
  refine h ow H σ _ st fun d1 v1 ow1 H1 h1 st1 e1 i1 => ?_
  refine h1 ow1 H1 σ _ st1 fun d2 v2 ow2 H2 h2 st2 e2 i2 => ?_
  refine h2 (fz ow2 H2) H2 v1 v2 _ pt_le (i1.mono e2.fz) i2 fun d v H' ⟨t, ed, q⟩ e i => ?_
  subst ed
  cases i
  exact ⟨t, rfl, k t (nw ow2 H2) H' q (st2.ext e) (e1.trans (e2.trans (.ext e)))⟩
theorem wt_val {Q : Bool → Prop} (h : W X e S fun d => ∃ t, d = .bool t ∧ Q t) (he : ∀ whole, isTrue e X.env whole = (do let v ← whole; standAt e.pos; holding [v] (truthy v)) := by intro _; rfl) : WT X e S Q := fun ow H σ Q' st k => by
  refine PT.we (pt_val pe_W he) ?_
  refine h ow H σ _ st fun d v ow1 H1 ⟨t, ed, q⟩ st1 e1 i1 => ?_
  subst ed
  cases i1
  exact ⟨t, rfl, k t ow1 H1 q st1 e1⟩
theorem wt_not {Q : Bool → Prop} (h : WT X a S fun t => Q (!t)) : WT X (.UnaryOp .Not a pos) S Q := fun ow H σ Q' st k => by
  refine PT.we (pt_not pt_W) ?_
  exact h ow H σ _ st fun t ow1 H1 q st1 e1 => k _ ow1 H1 q st1 e1
theorem wt_pw {Q : Bool → Prop} (h : WW X e S Q) : WT X e S Q := fun ow H σ Q' st k => PT.we (PW.pt pw_W) (h ow H σ _ st k)
theorem ww_and1 {Q : Bool → Prop} (h : WT X a S Q) : WW X (.BoolOp .And [a] pos) S Q := fun ow H σ Q' st k => PW.we (pw_and1 pt_W) (h ow H σ _ st k)
theorem ww_or1 {Q : Bool → Prop} (h : WT X a S Q) : WW X (.BoolOp .Or [a] pos) S Q := fun ow H σ Q' st k => PW.we (pw_or1 pt_W) (h ow H σ _ st k)
theorem ww_and {rest : List Expr} {Q : Bool → Prop} (h : WT X a S fun t => if t = true then WW X (.BoolOp .And (b :: rest) pos) S Q else Q false) : WW X (.BoolOp .And (a :: b :: rest) pos) S Q := fun ow H σ Q' st k => by
  refine PW.we (pw_and pt_W pw_W) ?_
  refine h ow H σ _ st fun t ow1 H1 q st1 e1 => ?_
  cases t with
  | true =>
    show WWr X _ σ H1 Q'
    rw [if_pos rfl] at q
    exact q ow1 H1 σ _ st1 fun t ow2 H2 q2 st2 e2 => k t ow2 H2 q2 st2 (e1.trans e2)
  | false =>
    show Q' false H1
    rw [if_neg Bool.false_ne_true] at q
    exact k false ow1 H1 q st1 e1
theorem ww_or {rest : List Expr} {Q : Bool → Prop} (h : WT X a S fun t => if t = true then Q true else WW X (.BoolOp .Or (b :: rest) pos) S Q) : WW X (.BoolOp .Or (a :: b :: rest) pos) S Q := fun ow H σ Q' st k => by
  refine PW.we (pw_or pt_W pw_W) ?_
  refine h ow H σ _ st fun t ow1 H1 q st1 e1 => ?_
  cases t with
  | true =>
    show Q' true H1
    rw [if_pos rfl] at q
    exact k true ow1 H1 q st1 e1
  | false =>
    show WWr X _ σ H1 Q'
    rw [if_neg Bool.false_ne_true] at q
    exact q ow1 H1 σ _ st1 fun t ow2 H2 q2 st2 e2 => k t ow2 H2 q2 st2 (e1.trans e2)
/-- x and y, as a value -/
theorem w_and {rest : List Expr} (h : W X a S fun d => ∃ t, d = .bool t ∧ if t = true then W X (.BoolOp .And (b :: rest) pos) S Q else Q (.bool false)) : W X (.BoolOp .And (a :: b :: rest) pos) S Q := fun ow H σ Q' st k => by
  refine PE.we (pe_and pe_W pe_W) ?_
  refine h ow H σ _ st fun d v ow1 H1 ⟨t, ed, q⟩ st1 e1 i1 => ?_
  subst ed
  cases i1
  refine ⟨t, rfl, ?_⟩
  cases t with
  | true =>
    show WE X _ σ H1 Q'
    rw [if_pos rfl] at q
    exact q ow1 H1 σ _ st1 fun d v ow2 H2 q2 st2 e2 => k d v ow2 H2 q2 st2 (e1.trans e2)
  | false =>
    show Q' (.bl false) H1
    rw [if_neg Bool.false_ne_true] at q
    exact k _ _ ow1 H1 q st1 e1 (.bl false)
theorem w_one {op : BoolOp} (h : W X a S Q) : W X (.BoolOp op [a] pos) S Q := fun ow H σ Q' st k => PE.we (pe_one pe_W) (h ow H σ _ st k)
/-- x or y, x a tuple or None -/
theorem w_or {rest : List Expr} (h : W X a S fun d => (d = .none ∧ W X (.BoolOp .Or (b :: rest) pos) S Q) ∨ ∃ d0 ds, d = .tuple (d0 :: ds) ∧ Q d) : W X (.BoolOp .Or (a :: b :: rest) pos) S Q := fun ow H σ Q' st k => by
  refine PE.we (pe_orT pe_W pe_W) ?_
  refine h ow H σ _ st fun d v ow1 H1 q st1 e1 i1 => ?_
  rcases q with ⟨ed, q⟩ | ⟨d0, ds, ed, q⟩
  · subst ed
    cases i1
    refine ⟨false, rfl, iteF ?_⟩
    exact q ow1 H1 σ _ st1 fun d v ow2 H2 q2 st2 e2 => k d v ow2 H2 q2 st2 (e1.trans e2)
  · refine ⟨true, ?_, iteT (k d v ow1 H1 q st1 e1 i1)⟩
    subst ed
    cases i1 with
    | tup p i =>
      cases i with
      | cons h1 h2 => exact .inr (.inl ⟨_, (p.mono pt_le).sq, rfl⟩)
theorem w_if (h : WT X c S fun t => if t = true then W X a S Q else W X b S Q) : W X (.IfExp c a b pos) S Q := fun ow H σ Q' st k => by
  refine PE.we (pe_ifExp pt_W pe_W pe_W) ?_
  refine h ow H σ _ st fun t ow1 H1 q st1 e1 => ?_
  cases t with
  | true =>
    show WE X a σ H1 Q'
    rw [if_pos rfl] at q
    exact q ow1 H1 σ _ st1 fun d v ow2 H2 q2 st2 e2 => k d v ow2 H2 q2 st2 (e1.trans e2)
  | false =>
    show WE X b σ H1 Q'
    rw [if_neg Bool.false_ne_true] at q
    exact q ow1 H1 σ _ st1 fun d v ow2 H2 q2 st2 e2 => k d v ow2 H2 q2 st2 (e1.trans e2)

/-! ### arguments, displays -/
theorem wa_nil {Q : List D → Prop} (q : Q []) : WA X [] S Q := fun ow H σ Q' st k => PA.we pa_nil (k [] [] ow H q st (Stp.refl _ _ _) .nil)
theorem wa_cons {Q : List D → Prop} (h : W X e S fun d => WA X es S fun ds => Q (d :: ds)) (hs : starEach (e :: es) X.env = (false, eval e X.env) :: starEach es X.env := by rfl) : WA X (e :: es) S Q := fun ow H σ Q' st k => by
  refine PA.we (pa_cons pe_W pa_W hs) ?_
  refine h ow H σ _ st fun d v ow1 H1 h1 st1 e1 i1 => ?_
  refine h1 ow1 H1 σ _ st1 fun ds vs ow2 H2 q st2 e2 i2 => ?_
  exact k _ _ ow2 H2 q st2 (e1.trans e2) (.cons (i1.mono e2.fz) i2)
/-- *e, e a list or a tuple -/
theorem wa_star {Q : List D → Prop} {p : Pos} (h : W X e S fun d => ∃ xs, (d = .list xs ∨ d = .tuple xs) ∧ WA X es S fun ds => Q (xs ++ ds)) (hs : starEach (.Starred e p :: es) X.env = (true, eval e X.env) :: starEach es X.env := by rfl) : WA X (.Starred e p :: es) S Q := fun ow H σ Q' st k => by
  refine PA.we (StX.pa_star pe_W pa_W hs) ?_
  refine h ow H σ _ st fun d v ow1 H1 ⟨xs, ed, h1⟩ st1 e1 i1 => ?_
  rcases ed with rfl | rfl
  · cases i1 with
    | lst p i =>
      refine ⟨_, _, rfl, .inr (SqL.of (pt_le _ _ p)), ?_⟩
      refine h1 ow1 H1 σ _ st1 fun ds vs ow2 H2 q st2 e2 i2 => ?_
      exact k _ _ ow2 H2 q st2 (e1.trans e2) ((i.mono e2.fz).append i2)
  · cases i1 with
    | tup p i =>
      refine ⟨_, _, rfl, .inl (p.mono pt_le).sq, ?_⟩
      refine h1 ow1 H1 σ _ st1 fun ds vs ow2 H2 q st2 e2 i2 => ?_
      exact k _ _ ow2 H2 q st2 (e1.trans e2) ((i.mono e2.fz).append i2)
end
/-- a new tuple, known to its object -/
theorem laid_tup {X : Cx} {pins : List (Addr × Obj)} {σ : L2.St} {H : Hp} {s : Shared} {xs : List V} {us : List Value} (I : Inv X pins σ H s) (r : Vals xs us) (z : xs.length ≤ sizeLine) :
    Inv X pins σ (upd H s.heap.objs.size (.frz { cls := .type "tuple", data := .seq us.toArray } (.tup xs))) { s with heap := s.heap.push { cls := .type "tuple", data := .seq us.toArray } } :=
  I.laid (t' := s.toks) (fun b u e => Heap.get?_push_of_some _ e) (Nat.le_refl _) ⟨Heap.get?_push_size _ rfl, z, us, r, ⟨_, Heap.get?_push_size _ rfl, rfl, _, rfl⟩⟩
section
variable {X : Cx} {S : Sto X.K} {Q R : D → Prop} {e a b c : Expr} {es : List Expr} {pos : Pos}
theorem w_tup {x1} (h : WA X es S fun ds => ds.length ≤ sizeLine ∧ Q (.tuple ds)) : W X (.Tuple es x1 pos) S Q := fun ow H σ Q' st k => .mk fun pins s I => by
  refine wpAny_Tuple_spliced (thn ((h ow H σ (fun vs H' => vs.length ≤ sizeLine ∧ ∀ p (o : Obj), o.cls = .type "tuple" ∧ o.dict = none → H' p = none → Q' (.ref p) (upd H' p (.frz o (.tup vs)))) st (fun ds vs ow1 H1 q st1 e1 i1 => ⟨by rw [i1.length]; exact q.1, fun p o ho hp => ?_⟩)).r pos pins s I) fun us s1 ⟨xs, H1, I1, r, z, q⟩ => ⟨by rw [← r.length]; exact z, ?_⟩)
  · have ex : Ex H1 (upd H1 p (.frz o (.tup vs))) := Evl.Ex.new hp
    refine k (.tuple ds) _ (nw ow1 H1) _ q.2 (st1.ext ex) (e1.trans (.ext ex)) (.tup ⟨o, ?_, ho⟩ (i1.mono (fz_le ex)))
    exact pt_of (nw_new hp) upd_same
  · exact ⟨.ref s1.heap.objs.size, _, laid_tup I1 r z, rfl, q _ _ ⟨rfl, rfl⟩ (I1.hok.fresh (Nat.le_refl _))⟩
theorem w_lst (h : WA X es S fun ds => ds.length ≤ sizeLine ∧ Q (.list ds)) : W X (.List es pos) S Q := fun ow H σ Q' st k => by
  refine PE.we (pe_lst pa_W) ?_
  refine h ow H σ _ st fun ds vs ow1 H1 q st1 e1 i1 => ⟨by rw [i1.length]; exact q.1, fun p hp => ?_⟩
  have ex : Ex H1 (upd H1 p (.lst vs)) := Evl.Ex.new hp
  refine k (.list ds) _ (nw ow1 H1) _ q.2 (st1.ext ex) (e1.trans (.ext ex)) (.lst ?_ (i1.mono (fz_le ex)))
  exact pt_of (nw_new hp) upd_same

/-! ### calls of what is built in, items, slices -/
theorem w_callB {x : Str} {id : String} {p : Pos} (hg : Gl X x) (hm : X.mg x = none) (hv : bootBuiltins x = some (.builtin id)) (h : WA X (e :: es) S fun ds => CD X (.builtin id) ds Q) (hn : x ≠ "__name__" := by decide) (hdb : (x == ("__debug__" : Str)) = false := by decide)
    (he : starEach (e :: es) X.env = (false, eval e X.env) :: starEach es X.env := by rfl) (hpl : (backTo pos (starEach es X.env)).any (·.1) = false := by rfl) : W X (.Call (.Name x p) (e :: es) [] pos) S Q := fun ow H σ Q' st k => by
  refine PE.we (pe_callB cl_W hg hm hv pa_W hn hdb he hpl) ?_
  refine h ow H σ _ st fun ds vs ow1 H1 q st1 e1 i1 => ?_
  exact q (fz ow1 H1) H1 vs Q' pt_le i1 fun d v H' q e i => k d v (nw ow1 H1) H' q (st1.ext e) (e1.trans (.ext e)) (by rw [fz_nw]; exact i)
theorem w_callT {x : Str} {T : String} {p : Pos} (hg : Gl X x) (hm : X.mg x = none) (hv : bootBuiltins x = some (.type T)) (h : WA X (e :: es) S fun ds => CD X (.type T) ds Q) (hn : x ≠ "__name__" := by decide) (hdb : (x == ("__debug__" : Str)) = false := by decide)
    (he : starEach (e :: es) X.env = (false, eval e X.env) :: starEach es X.env := by rfl) (hpl : (backTo pos (starEach es X.env)).any (·.1) = false := by rfl) : W X (.Call (.Name x p) (e :: es) [] pos) S Q := fun ow H σ Q' st k => by
  refine PE.we (pe_callTy cl_W hg hm hv pa_W hn hdb he hpl) ?_
  refine h ow H σ _ st fun ds vs ow1 H1 q st1 e1 i1 => ?_
  exact q (fz ow1 H1) H1 vs Q' pt_le i1 fun d v H' q e i => k d v (nw ow1 H1) H' q (st1.ext e) (e1.trans (.ext e)) (by rw [fz_nw]; exact i)
theorem w_ix (h : W X a S fun d1 => W X b S fun d2 => XD X d1 d2 Q) (hs : PlainIx b := by intro _ _; rfl) : W X (.Subscript a b pos) S Q := fun ow H σ Q' st k => by
  refine PE.we (pe_ix ix_W pe_W pe_W hs) ?_
  refine h ow H σ _ st fun d1 v1 ow1 H1 h1 st1 e1 i1 => ?_
  refine h1 ow1 H1 σ _ st1 fun d2 v2 ow2 H2 h2 st2 e2 i2 => ?_
  exact h2 (fz ow2 H2) H2 v1 v2 Q' pt_le (i1.mono e2.fz) i2 fun d v H' q e i => k d v (nw ow2 H2) H' q (st2.ext e) (e1.trans (e2.trans (.ext e))) (by rw [fz_nw]; exact i)
/-- a part of a slice -/
def WO (X : Cx) (e : Option Expr) (S : Sto X.K) (Q : Option Int → Prop) : Prop := match e with
  | none => Q none
  | some e => W X e S fun d => ∃ i, d = .int i ∧ Q (some i)
theorem w_sl {lo hi : Option Expr} {p2 : Pos} (h : W X a S fun d => WO X lo S fun l => WO X hi S fun u => SD X d l u Q) : W X (.Subscript a (.Slice lo hi none p2) pos) S Q := fun ow H σ Q' st k => by
  have fin : ∀ {d1 : D} {v1 : V} {ow2 : Addr → Nat} {H2 : Hp} {l u : Option Int}, SD X d1 l u Q → Std X.K ow2 H2 σ S → Stp S.length ow H ow2 H2 → Is X.K (fz ow2 H2) v1 d1 → slW X v1 l u H2 Q' := fun {d1 v1 ow2 H2 l u} h2 st2 e2 i2 =>
    h2 (fz ow2 H2) H2 v1 Q' pt_le i2 fun d v H' q e i => k d v (nw ow2 H2) H' q (st2.ext e) (e2.trans (.ext e)) (by rw [fz_nw]; exact i)
  cases lo with
  | none =>
    cases hi with
    | none =>
      refine PE.we (pe_slice sl_W pe_W po_none po_none) ?_
      refine h ow H σ _ st fun d1 v1 ow1 H1 h1 st1 e1 i1 => ?_
      exact fin h1 st1 e1 i1
    | some u =>
      refine PE.we (pe_slice sl_W pe_W po_none (po_some pe_W)) ?_
      refine h ow H σ _ st fun d1 v1 ow1 H1 h1 st1 e1 i1 => ?_
      refine h1 ow1 H1 σ _ st1 fun d2 v2 ow2 H2 ⟨i, ed, h2⟩ st2 e2 i2 => ?_
      subst ed
      cases i2
      exact ⟨i, rfl, fin h2 st2 (e1.trans e2) (i1.mono e2.fz)⟩
  | some l =>
    cases hi with
    | none =>
      refine PE.we (pe_slice sl_W pe_W (po_some pe_W) po_none) ?_
      refine h ow H σ _ st fun d1 v1 ow1 H1 h1 st1 e1 i1 => ?_
      refine h1 ow1 H1 σ _ st1 fun d2 v2 ow2 H2 ⟨i, ed, h2⟩ st2 e2 i2 => ?_
      subst ed
      cases i2
      exact ⟨i, rfl, fin h2 st2 (e1.trans e2) (i1.mono e2.fz)⟩
    | some u =>
      refine PE.we (pe_slice sl_W pe_W (po_some pe_W) (po_some pe_W)) ?_
      refine h ow H σ _ st fun d1 v1 ow1 H1 h1 st1 e1 i1 => ?_
      refine h1 ow1 H1 σ _ st1 fun d2 v2 ow2 H2 ⟨i, ed, h2⟩ st2 e2 i2 => ?_
      subst ed
      cases i2
      refine ⟨i, rfl, ?_⟩
      refine h2 ow2 H2 σ _ st2 fun d3 v3 ow3 H3 ⟨j, ed, h3⟩ st3 e3 i3 => ?_
      subst ed
      cases i3
      exact ⟨j, rfl, fin h3 st3 (e1.trans (e2.trans e3)) (i1.mono (e2.trans e3).fz)⟩
end
end K3
end

section
set_option autoImplicit true
set_option Elab.async false
set_option linter.all false
set_option maxRecDepth 100000
set_option maxHeartbeats 1000000
/-! Operators, builtins, items over data. -/
namespace K3
open PySem PySem.Spec PyProof.Rows L2
section
variable {X : Cx} {Q : D → Prop}
theorem od_r {f : Value → Value → Sem Value} {r : R2} {d1 d2 : D} (ho : OpR X f r) (h : ∀ (F H : Hp) (x y : V) (Q' : VK), Ex F H → Is X.K F x d1 → Is X.K F y d2 → Ke X.K F H Q Q' → r x y H Q') : OD X f d1 d2 Q :=
  fun F H x y Q' f i1 i2 k pins s σ v u I rx ry => ho pins s σ H x y v u Q' I rx ry (h F H x y Q' f i1 i2 k)
theorem cd_r {f : Value} {r : List V → Hp → VK → Prop} {ds : List D} (ho : CallR X f r) (h : ∀ (F H : Hp) (xs : List V) (Q' : VK), Ex F H → IsA X.K F xs ds → Ke X.K F H Q Q' → r xs H Q') : CD X f ds Q :=
  fun F H xs Q' f i k pins s σ us I r => ho pins s σ H xs us Q' I r (h F H xs Q' f i k)
theorem xd_r {r : R2} {d1 d2 : D} (ho : IxR X r) (h : ∀ (F H : Hp) (x y : V) (Q' : VK), Ex F H → Is X.K F x d1 → Is X.K F y d2 → Ke X.K F H Q Q' → r x y H Q') : XD X d1 d2 Q :=
  fun F H x y Q' f i1 i2 k value slice pins s σ v u I rx ry hs => ho value slice pins s σ H x y v u Q' I rx ry (h F H x y Q' f i1 i2 k) hs
theorem sd_r {r : V → Option Int → Option Int → Hp → VK → Prop} {d : D} {lo hi : Option Int} (ho : SlR X r) (h : ∀ (F H : Hp) (x : V) (Q' : VK), Ex F H → Is X.K F x d → Ke X.K F H Q Q' → r x lo hi H Q') : SD X d lo hi Q :=
  fun F H x Q' f i k pins s σ v vl vu sl I rx hs pl pu => ho pins s σ H x v vl vu lo hi sl Q' I rx hs pl pu (h F H x Q' f i k)

/-! ### ints -/
theorem od_add {i j : Int} (q : Q (.int (i + j))) : OD X (binaryOp .Add) (.int i) (.int j) Q := od_r op_add fun F H x y Q' f i1 i2 k => by
  cases i1; cases i2; exact ⟨_, _, rfl, rfl, k.int q⟩
theorem od_sub {i j : Int} (q : Q (.int (i - j))) : OD X (binaryOp .Sub) (.int i) (.int j) Q := od_r op_sub fun F H x y Q' f i1 i2 k => by
  cases i1; cases i2; exact ⟨_, _, rfl, rfl, k.int q⟩
/-- a * b, one of them within 2 ^ 64 -/
theorem od_mul {i j : Int} (c : CMul i j) (q : Q (.int (i * j))) : OD X (binaryOp .Mult) (.int i) (.int j) Q := od_r op_mul fun F H x y Q' f i1 i2 k => by
  cases i1; cases i2; exact ⟨_, _, rfl, rfl, c, k.int q⟩
theorem od_mod {i j : Int} (c : 0 < j) (q : Q (.int (i % j))) : OD X (binaryOp .Mod) (.int i) (.int j) Q := od_r op_mod fun F H x y Q' f i1 i2 k => by
  cases i1; cases i2; exact ⟨_, _, rfl, rfl, c, k.int q⟩
theorem od_div {i j : Int} (c : CDiv i j) (q : Q (.int (i / j))) : OD X (binaryOp .FloorDiv) (.int i) (.int j) Q := od_r op_fdiv fun F H x y Q' f i1 i2 k => by
  cases i1; cases i2; exact ⟨_, _, rfl, rfl, c, k.int q⟩
theorem od_pow {i j : Int} (c : CPow i j) (q : Q (.int (i ^ j.toNat))) : OD X (binaryOp .Pow) (.int i) (.int j) Q := od_r op_pow fun F H x y Q' f i1 i2 k => by
  cases i1; cases i2; exact ⟨_, _, rfl, rfl, c, k.int q⟩
theorem od_lt {i j : Int} (q : Q (.bool (decide (i < j)))) : OD X (compareOp .Lt) (.int i) (.int j) Q := od_r op_lt fun F H x y Q' f i1 i2 k => by
  cases i1; cases i2; exact ⟨_, _, rfl, rfl, k.bool q⟩
theorem od_le {i j : Int} (q : Q (.bool (decide (i ≤ j)))) : OD X (compareOp .LtE) (.int i) (.int j) Q := od_r op_le fun F H x y Q' f i1 i2 k => by
  cases i1; cases i2; exact ⟨_, _, rfl, rfl, k.bool q⟩
theorem od_gt {i j : Int} (q : Q (.bool (decide (j < i)))) : OD X (compareOp .Gt) (.int i) (.int j) Q := od_r op_gt fun F H x y Q' f i1 i2 k => by
  cases i1; cases i2; exact ⟨_, _, rfl, rfl, k.bool q⟩
theorem od_ge {i j : Int} (q : Q (.bool (decide (j ≤ i)))) : OD X (compareOp .GtE) (.int i) (.int j) Q := od_r op_ge fun F H x y Q' f i1 i2 k => by
  cases i1; cases i2; exact ⟨_, _, rfl, rfl, k.bool q⟩
theorem dec_V {i j : Int} : decide (V.int i = V.int j) = decide (i = j) := by
  by_cases h : i = j
  · subst h; simp
  · rw [decide_eq_false h, decide_eq_false (fun q => h (V.int.inj q))]
theorem od_eq {i j : Int} (q : Q (.bool (decide (i = j)))) : OD X (compareOp .Eq) (.int i) (.int j) Q := od_r op_eq fun F H x y Q' f i1 i2 k => by
  cases i1; cases i2; exact ⟨rfl, by rw [dec_V]; exact k.bool q⟩
theorem od_ne {i j : Int} (q : Q (.bool (!decide (i = j)))) : OD X (compareOp .NotEq) (.int i) (.int j) Q := od_r op_ne fun F H x y Q' f i1 i2 k => by
  cases i1; cases i2; exact ⟨rfl, by rw [dec_V]; exact k.bool q⟩
/-- == of data -/
theorem od_eqD {d e : D} (hu : X.A.units + 64 < cLine) (nd : d.hasDict = false) (ne : e.hasDict = false) (sd : SeqAt.shaped d = true) (se : SeqAt.shaped e = true) (q : Q (.bool (PyData.eqv d e))) : OD X (compareOp .Eq) d e Q :=
  od_r (op_eqD hu) fun F H x y Q' f i1 i2 k => ⟨d, e, (i1.mono f).dp nd, (i2.mono f).dp ne, sd, se, k.bool q⟩
theorem od_neD {d e : D} (hu : X.A.units + 64 < cLine) (nd : d.hasDict = false) (ne : e.hasDict = false) (sd : SeqAt.shaped d = true) (se : SeqAt.shaped e = true) (q : Q (.bool (!PyData.eqv d e))) : OD X (compareOp .NotEq) d e Q :=
  od_r (op_neD hu) fun F H x y Q' f i1 i2 k => ⟨d, e, (i1.mono f).dp nd, (i2.mono f).dp ne, sd, se, k.bool q⟩
def isN : D → Bool
  | .none => true
  | _ => false
theorem is_none_iff {K : PySem.W.Frag} {F : Hp} {v : V} {d : D} (h : Is K F v d) : decide (v = .non) = isN d := by
  cases h <;> simp [isN]
theorem od_is {d : D} (q : Q (.bool (isN d))) : OD X (compareOp .Is) d .none Q := od_r op_isN fun F H x y Q' f i1 i2 k => by
  cases i2
  refine ⟨rfl, ?_⟩
  rw [is_none_iff i1]
  exact k.bool q
theorem od_isnot {d : D} (q : Q (.bool (!isN d))) : OD X (compareOp .IsNot) d .none Q := od_r op_notN fun F H x y Q' f i1 i2 k => by
  cases i2
  refine ⟨rfl, ?_⟩
  rw [is_none_iff i1]
  exact k.bool q
theorem inV_ints {i : Int} : ∀ ns : List Int, inV (.int i) (ns.map V.int) = ns.contains i := fun ns => by
  unfold inV
  rw [List.any_map, List.contains_eq_any_beq]
  congr 1
  funext j
  simp only [Function.comp]
  unfold eqV
  simp [Bool.beq_eq_decide_eq]
  try exact ⟨fun h => h.symm, fun h => h.symm⟩
theorem flat_ints (ns : List Int) : (ns.map V.int).all flatV = true := by
  rw [List.all_map]
  exact List.all_eq_true.mpr fun _ _ => rfl
theorem od_inL {i : Int} {ns : List Int} (q : Q (.bool (ns.contains i))) : OD X (compareOp .In) (.int i) (.list (ns.map .int)) Q := od_r op_in_seq fun F H x y Q' f i1 i2 k => by
  cases i1
  cases i2 with
  | lst p a =>
    rw [a.ints] at p
    refine ⟨_, _, rfl, .inl (SqL.of (f _ _ p)), rfl, flat_ints ns, ?_⟩
    rw [if_neg Bool.false_ne_true, inV_ints]
    exact k.bool q
/-- t + u -/
theorem od_catT {xs ys : List D} (z : xs.length + ys.length ≤ sizeLine) (q : Q (.tuple (xs ++ ys))) : OD X (binaryOp .Add) (.tuple xs) (.tuple ys) Q := fun F H x y Q' f i1 i2 k pins s σ v u I rx ry => by
  cases i1 with
  | @tup a vs _ p1 a1 =>
    cases i2 with
    | @tup b ws _ p2 a2 =>
      have l1 := a1.length
      have l2 := a2.length
      by_cases hx : vs = []
      · subst hx
        cases a1
        refine op_catA pins s σ H _ _ v u Q' I rx ry ⟨a, b, [], ws, rfl, rfl, (p1.mono f).sq, (p2.mono f).sq, by rw [l2]; exact z, fun _ => k.here f q (.tup p2 a2), fun q => absurd rfl q, fun q => absurd rfl q⟩
      · by_cases hy : ws = []
        · subst hy
          cases a2
          rw [List.append_nil] at q
          refine op_catA pins s σ H _ _ v u Q' I rx ry ⟨a, b, vs, [], rfl, rfl, (p1.mono f).sq, (p2.mono f).sq, by rw [l1]; exact z, fun q => absurd q hx, fun _ _ => k.here f q (.tup p1 a1), fun _ q => absurd rfl q⟩
        · cases rx
          cases ry
          obtain ⟨its, r1, t1, _⟩ := I.tuple (p1.mono f).sq
          obtain ⟨its2, r2, t2, _⟩ := I.tuple (p2.mono f).sq
          have e1 := r1.length
          have e2 := r2.length
          refine HT.cat_tup t1 t2 (fun e => hx (r1.nil_iff.mp e)) (fun e => absurd (r2.nil_iff.mp e) hy) (fun _ => ?_) (by omega)
          exact ⟨.ref s.heap.objs.size, _, laid_tup I (r1.append r2) (by rw [List.length_append]; omega), rfl, k.tup f ⟨rfl, rfl⟩ I.fresh q (a1.append a2)⟩
theorem od_catL {xs ys : List D} (z : xs.length + ys.length ≤ sizeLine) (q : Q (.list (xs ++ ys))) : OD X (binaryOp .Add) (.list xs) (.list ys) Q := od_r op_cat fun F H x y Q' f i1 i2 k => by
  cases i1 with
  | lst p1 a1 =>
    cases i2 with
    | lst p2 a2 =>
      refine ⟨_, _, _, _, rfl, rfl, f _ _ p1, f _ _ p2, by rw [a1.length, a2.length]; exact z, fun p hp => ?_⟩
      exact k.lst f hp q (a1.append a2)
theorem IsA.rep {K : PySem.W.Frag} {F : Hp} {vs : List V} {ds : List D} (h : IsA K F vs ds) : ∀ n : Nat, IsA K F (List.replicate n vs).flatten (List.replicate n ds).flatten
  | 0 => .nil
  | n + 1 => by
    rw [List.replicate_succ, List.replicate_succ, List.flatten_cons, List.flatten_cons]
    exact h.append (IsA.rep h n)
theorem od_repL {xs : List D} {n : Int} (hn : 0 ≤ n ∧ n ≤ 1000) (hx : xs.length ≤ 1000) (q : Q (.list (List.replicate n.toNat xs).flatten)) : OD X (binaryOp .Mult) (.list xs) (.int n) Q := od_r op_rep fun F H x y Q' f i1 i2 k => by
  cases i2
  cases i1 with
  | lst p a =>
    have hl := a.length
    refine ⟨_, _, _, rfl, rfl, f _ _ p, by omega, by omega, ?_, fun p hp => k.lst f hp q (a.rep n.toNat)⟩
    rw [hl]
    have h1 : n.toNat ≤ 1000 := by omega
    have h2 : xs.length * n.toNat ≤ 1000 * 1000 := Nat.mul_le_mul hx h1
    exact Nat.le_trans h2 (by decide)

/-! ### items, slices -/
theorem xd_lst {ds : List D} {d : D} {i : Nat} (h : ds[i]? = some d) (q : Q d) : XD X (.list ds) (.int (i : Int)) Q := xd_r ix_list fun F H x y Q' f i1 i2 k => by
  cases i2
  cases i1 with
  | lst p a =>
    obtain ⟨v, e, iv⟩ := a.get h
    exact ⟨_, _, _, v, rfl, rfl, SqL.of (f _ _ p), atI_nat e, k.here f q iv⟩
theorem xd_tup {ds : List D} {d : D} {i : Nat} (h : ds[i]? = some d) (q : Q d) : XD X (.tuple ds) (.int (i : Int)) Q := xd_r ix_tup fun F H x y Q' f i1 i2 k => by
  cases i2
  cases i1 with
  | tup p a =>
    obtain ⟨v, e, iv⟩ := a.get h
    exact ⟨_, _, _, v, rfl, rfl, (p.mono f).sq, atI_nat e, k.here f q iv⟩
theorem xd_lstI {ds : List D} {d : D} {i : Int} (h0 : 0 ≤ i) (h : ds[i.toNat]? = some d) (q : Q d) : XD X (.list ds) (.int i) Q := by
  have e : i = (i.toNat : Int) := by omega
  rw [e]
  exact xd_lst h q
theorem xd_tupI {ds : List D} {d : D} {i : Int} (h0 : 0 ≤ i) (h : ds[i.toNat]? = some d) (q : Q d) : XD X (.tuple ds) (.int i) Q := by
  have e : i = (i.toNat : Int) := by omega
  rw [e]
  exact xd_tup h q
def cutD (xs : List D) (lo hi : Option Int) : List D := (xs.drop (HT.sIx xs.length 0 lo)).take (HT.sIx xs.length xs.length hi - HT.sIx xs.length 0 lo)
theorem IsA.cut {K : PySem.W.Frag} {F : Hp} {vs : List V} {ds : List D} (h : IsA K F vs ds) (lo hi : Option Int) : IsA K F (cutV vs lo hi) (cutD ds lo hi) := by
  unfold cutV cutD
  rw [h.length]
  exact (h.drop _).take _
theorem sd_lst {ds : List D} {lo hi : Option Int} (q : Q (.list (cutD ds lo hi))) : SD X (.list ds) lo hi Q := sd_r sl_list fun F H x Q' f i k => by
  cases i with
  | lst p a => exact ⟨_, _, rfl, SqL.of (f _ _ p), fun p hp => k.lst f hp q (a.cut lo hi)⟩
theorem sd_tup {ds : List D} {lo hi : Option Int} (q : Q (.tuple (cutD ds lo hi))) : SD X (.tuple ds) lo hi Q := fun F H x Q' f i k pins s σ v vl vu sl I rx hs pl pu => by
  cases i with
  | @tup t xs _ p a =>
    by_cases hw : HT.sIx xs.length 0 lo = 0 ∧ HT.sIx xs.length xs.length hi = xs.length
    · refine sl_tupA pins s σ H _ v vl vu lo hi sl Q' I rx hs pl pu ⟨t, xs, rfl, (p.mono f).sq, fun _ => ?_, fun z => absurd hw z⟩
      have e : cutD ds lo hi = ds := by
        unfold cutD
        rw [← a.length, hw.1, hw.2, List.drop_zero, Nat.sub_zero, a.length, List.take_length]
      rw [e] at q
      exact k.here f q (.tup p a)
    · cases rx
      obtain ⟨its, r, ht, hz⟩ := I.tuple (p.mono f).sq
      have hlen : its.toArray.size = xs.length := by rw [List.size_toArray]; exact r.length.symm
      refine ⟨"tuple", _, PyProof.Rows.slot_tuple_getitem.lookup, ht.typeIs, ?_⟩
      refine HT.getItem_tuple_cut ht hs pl pu (by rw [hlen]; exact hw) ?_ (by rw [hlen]; exact hz)
      rw [hlen]
      have r' : Vals (cutV xs lo hi) _ := (r.drop (HT.sIx xs.length 0 lo)).take (HT.sIx xs.length xs.length hi - HT.sIx xs.length 0 lo)
      exact ⟨.ref s.heap.objs.size, _, laid_tup I r' (Nat.le_trans (cutV_length xs lo hi) hz), rfl, k.tup f ⟨rfl, rfl⟩ I.fresh q (a.cut lo hi)⟩
/-- t[1:] of a tuple that is not empty -/
theorem cutD_tail (d : D) (ds : List D) : cutD (d :: ds) (some 1) none = ds := by
  unfold cutD
  have e : HT.sIx (d :: ds).length 0 (some 1) = 1 := by
    have := HT.sIx_nat (d :: ds).length 0 1
    rw [show ((1 : Nat) : Int) = 1 from rfl] at this
    rw [this, List.length_cons]
    omega
  rw [e, HT.sIx_none, List.drop_succ_cons, List.drop_zero, List.length_cons, Nat.add_sub_cancel, List.take_length]
theorem cutD_upto (ds : List D) (n : Nat) : cutD ds none (some (n : Int)) = ds.take n := by
  unfold cutD
  rw [HT.sIx_none, HT.sIx_nat, List.drop_zero, Nat.sub_zero]
  by_cases h : n ≤ ds.length
  · rw [Nat.min_eq_left h]
  · rw [Nat.min_eq_right (by omega), List.take_length, List.take_of_length_le (by omega)]

/-! ### builtins -/
theorem cd_lenL {ds : List D} (q : Q (.int ds.length)) : CD X (.builtin "len") [.list ds] Q := cd_r call_len_seq fun F H xs Q' f i k => by
  cases i with
  | cons h t =>
    cases t
    cases h with
    | lst p a =>
      refine ⟨_, _, rfl, .inl (SqL.of (f _ _ p)), ?_⟩
      rw [a.length]
      exact k.int q
theorem cd_lenT {ds : List D} (q : Q (.int ds.length)) : CD X (.builtin "len") [.tuple ds] Q := cd_r call_len_seq fun F H xs Q' f i k => by
  cases i with
  | cons h t =>
    cases t
    cases h with
    | tup p a =>
      refine ⟨_, _, rfl, .inr (p.mono f).sq, ?_⟩
      rw [a.length]
      exact k.int q
theorem cd_abs {i : Int} (q : Q (.int (if i < 0 then -i else i))) : CD X (.builtin "abs") [.int i] Q := cd_r call_abs fun F H xs Q' f a k => by
  cases a with
  | cons h t =>
    cases t
    cases h
    exact ⟨_, rfl, k.int q⟩
theorem cd_max {i j : Int} (hc : X.calm = true) (q : Q (.int (if j > i then j else i))) : CD X (.builtin "max") [.int i, .int j] Q := cd_r (call_max2 hc) fun F H xs Q' f a k => by
  cases a with
  | cons h t =>
    cases t with
    | cons h2 t2 =>
      cases t2
      cases h
      cases h2
      exact ⟨_, _, rfl, k.int q⟩
theorem cd_min {i j : Int} (hc : X.calm = true) (q : Q (.int (if j < i then j else i))) : CD X (.builtin "min") [.int i, .int j] Q := cd_r (call_min2 hc) fun F H xs Q' f a k => by
  cases a with
  | cons h t =>
    cases t with
    | cons h2 t2 =>
      cases t2
      cases h
      cases h2
      exact ⟨_, _, rfl, k.int q⟩
theorem cd_int {i : Int} (q : Q (.int i)) : CD X (.type "int") [.int i] Q := cd_r call_int1 fun F H xs Q' f a k => by
  cases a with
  | cons h t =>
    cases t
    cases h
    exact .inl ⟨_, rfl, k.int q⟩
theorem cd_list {ds : List D} {d : D} (hd : d = .list ds ∨ d = .tuple ds) (q : Q (.list ds)) : CD X (.type "list") [d] Q := cd_r call_list_of fun F H xs Q' f a k => by
  cases a with
  | cons h t =>
    cases t
    rcases hd with rfl | rfl
    · cases h with
      | lst p a => exact ⟨_, _, rfl, .inl (SqL.of (f _ _ p)), fun l hl => k.lst f hl q a⟩
    · cases h with
      | tup p a => exact ⟨_, _, rfl, .inr (p.mono f).sq, fun l hl => k.lst f hl q a⟩
theorem cd_tuple {ds : List D} (q : Q (.tuple ds)) : CD X (.type "tuple") [.list ds] Q := fun F H xs Q' f a k pins s σ us I r => by
  cases a with
  | cons h t =>
    cases t
    cases h with
    | lst p a =>
      obtain ⟨u, rfl, rx⟩ := vals1 r
      cases rx
      obtain ⟨its, r', pl, hz⟩ := I.list (SqL.of (f _ _ p))
      have hlen := r'.length
      refine call_tuple_list pl.isList (fun h' kp => ?_) (by simp only [List.size_toArray] <;> omega)
      have I1 : Inv X pins σ H { s with heap := h' } := I.kept (t' := s.toks) kp
      exact ⟨.ref h'.objs.size, _, laid_tup I1 r' hz, rfl, k.tup f ⟨rfl, rfl⟩ I1.fresh q a⟩
theorem cd_sumL {ns : List Int} (hc : X.calm = true) (q : Q (.int ns.sum)) : CD X (.builtin "sum") [.list (ns.map .int)] Q := cd_r (cr_sum hc) fun F H xs Q' f a k => by
  cases a with
  | cons h t =>
    cases t
    cases h with
    | lst p a =>
      rw [a.ints] at p
      exact ⟨_, _, rfl, SqL.of (f _ _ p), k.int q⟩
theorem cd_all {bs : List Bool} (hc : X.calm = true) (q : Q (.bool (bs.all id))) : CD X (.builtin "all") [.list (bs.map .bool)] Q := cd_r (cr_all hc) fun F H xs Q' f a k => by
  cases a with
  | cons h t =>
    cases t
    cases h with
    | lst p a =>
      rw [a.bools] at p
      exact ⟨_, _, rfl, SqL.of (f _ _ p), k.bool q⟩
end
/-- sum of a tuple of ints -/
theorem sum_tupI {prog : Program} {w : World} {A : Around} {E : Value → Shared → Prop} {s : Shared} {l : Addr} {its : List Value} {ns : List Int} {Q : Value → Shared → Prop} (hh : A.handled = none) (hl : s.heap.IsTuple l its.toArray) (hi : IntsAre its ns)
    (h : ∀ h' tk t', (∀ b o, s.heap.get? b = some o → h'.get? b = some o) → Q (.int ns.sum t') { s with heap := h', toks := tk }) : wpAny (model prog w) A (call (.builtin "sum") [.ref l]) Q E s := by
  obtain ⟨xs, e⟩ := hi.allInts.items
  have hn : numsOf (intItems xs).toList = ns := by rw [← e]; exact hi.numsOf
  rw [nums_intItems] at hn
  rw [e] at hl
  refine call_sum_walkG (wpAny_pyIter_tuple hl ?_)
  have hlt : l < s.heap.objs.size := by
    obtain ⟨o, ho, _⟩ := hl
    exact Heap.lt_size ho
  have kp : ∀ b o, s.heap.get? b = some o → (s.heap.push { cls := .type "tuple_iterator", data := .fields #[.ref l, .int 0 0] }).get? b = some o := fun b o e => Heap.get?_push_of_some _ e
  have W := Walks.tuple (prog := prog) (w := w) (A := A.in1) hh s.heap.objs.size l (Nat.ne_of_lt hlt) (intItems xs)
  refine ⟨s.heap.objs.size, _, _, (intItems xs).size, _, _, numAt xs, rfl, W, ?_, ?_, fun i v hv => ?_, fun h' tk t' hk => ?_⟩
  · refine And.intro ?_ (hl.at fun o e => kp _ o e)
    exact ⟨_, Heap.get?_push_size _ rfl, rfl, rfl⟩
  · intro b hb
    rw [Heap.size_push]
    rcases List.mem_cons.mp hb with rfl | hb
    · exact Nat.lt_succ_self _
    · rcases List.mem_cons.mp hb with rfl | hb
      · exact Nat.lt_succ_of_lt hlt
      · cases hb
  · exact intItems_at hv
  · have := h h' tk t' fun b o e => hk b o (fun hm => by
      rcases List.mem_cons.mp hm with rfl | hm
      · exact absurd (Heap.lt_size e) (Nat.lt_irrefl _)
      · cases hm) (kp b o e)
    rw [preSum_eq, List.take_of_length_le (by simp [intItems]), hn]
    exact this
section
variable {X : Cx} {Q : D → Prop}
theorem cd_sumT {ns : List Int} (hc : X.calm = true) (q : Q (.int ns.sum)) : CD X (.builtin "sum") [.tuple (ns.map .int)] Q := fun F H xs Q' f a k pins s σ us I r => by
  cases a with
  | cons h t =>
    cases t
    cases h with
    | tup p a =>
      rw [a.ints] at p
      obtain ⟨its, rv, hl, _⟩ := I.tuple (p.mono f).sq
      rw [Vals.ref1 r]
      refine sum_tupI (I.ok.hd hc) ?_ rv.ints fun h' tk t' hk => ⟨.int _, H, I.kept hk, ⟨_, rfl⟩, k.int q⟩
      exact hl
end
end K3
end

section
set_option autoImplicit true
set_option Elab.async false
set_option linter.all false
set_option maxRecDepth 100000
set_option maxHeartbeats 1000000
/-! Fresh values of a slot's own; tuple.index; defs' promises over data and their calls. -/
namespace K3
open PySem PySem.Spec PyProof.Rows L2

/-! ### values that come with parts of their own (in zone n + 1) -/
def zn (n : Nat) (ow : Addr → Nat) (H H' : Hp) : Hp := fun x => match H x with
  | none => if ow x = n + 1 then H' x else none
  | some _ => none
section
variable {n : Nat} {ow ow' : Addr → Nat} {H H' : Hp} {x : Addr} {o : HO}
theorem zn_some (h : zn n ow H H' x = some o) : H x = none ∧ ow x = n + 1 ∧ H' x = some o := by
  unfold zn at h
  cases e : H x with
  | some u =>
    rw [e] at h
    cases h
  | none =>
    rw [e] at h
    have h' : (if ow x = n + 1 then H' x else none) = some o := h
    by_cases c : ow x = n + 1
    · rw [if_pos c] at h'
      exact ⟨rfl, c, h'⟩
    · rw [if_neg c] at h'
      cases h'
theorem zn_of (h1 : H x = none) (h2 : ow x = n + 1) (h3 : H' x = some o) : zn n ow H H' x = some o := by
  unfold zn
  rw [h1]
  show (if ow x = n + 1 then H' x else none) = some o
  rw [if_pos h2, h3]
end
def Kv (K : PySem.W.Frag) (S : Sto K) (σ : L2.St) (ow : Addr → Nat) (H : Hp) (Q : Sv K → Prop) (Q' : VK) : Prop :=
  ∀ (s : Sv K) (v : V) (ow' : Addr → Nat) (H' : Hp), Q s → Std K ow' H' σ S → Stp S.length ow H ow' H' → s.ok (fz ow' H') (zn S.length ow' H H') (some v) → Q' v H'
/-- e evaluates to something that a slot may hold -/
def WV (X : Cx) (e : Expr) (S : Sto X.K) (Q : Sv X.K → Prop) : Prop := ∀ (ow : Addr → Nat) (H : Hp) (σ : L2.St) (Q' : VK), Std X.K ow H σ S → Kv X.K S σ ow H Q Q' → WE X e σ H Q'
section
variable {X : Cx} {S : Sto X.K} {e : Expr} {es : List Expr} {pos : Pos}
theorem wv_dat {Q : Sv X.K → Prop} (h : W X e S fun d => Q (.dat d)) : WV X e S Q := fun ow H σ Q' st k => h ow H σ Q' st fun d v ow' H' q st' e i => k _ v ow' H' q st' e ⟨v, rfl, i⟩
/-- a new object is put into zone n + 1 -/
def zw (n : Nat) (ow : Addr → Nat) (H : Hp) : Addr → Nat := fun a => match H a with
  | none => n + 1
  | some _ => ow a
theorem zw_old {n : Nat} {ow : Addr → Nat} {H : Hp} {a : Addr} {o : HO} (h : H a = some o) : zw n ow H a = ow a := by
  unfold zw
  rw [h]
theorem zw_new {n : Nat} {ow : Addr → Nat} {H : Hp} {a : Addr} (h : H a = none) : zw n ow H a = n + 1 := by
  unfold zw
  rw [h]
theorem pt_zw {n m : Nat} {ow : Addr → Nat} {H H' : Hp} (e : Ex H H') (hm : m ≠ n + 1) : pt (zw n ow H) m H' = pt ow m H := by
  funext a
  unfold pt
  cases h : H a with
  | none =>
    rw [zw_new h, if_neg (Ne.symm hm)]
    split <;> rfl
  | some o => rw [zw_old h, e a o h]
theorem Std.zone {K : PySem.W.Frag} {ow : Addr → Nat} {H H' : Hp} {σ : L2.St} {S : Sto K} (st : Std K ow H σ S) (e : Ex H H') : Std K (zw S.length ow H) H' σ S := by
  refine ⟨st.len, fun i s h => ?_⟩
  have hi : i < S.length := (List.getElem?_eq_some_iff.mp h).1
  rw [pt_zw e (by omega)]
  show s.ok (pt (zw S.length ow H) 0 H') _ _
  rw [pt_zw e (by omega)]
  exact st.sl i s h
theorem Stp.zone {n : Nat} {ow : Addr → Nat} {H H' : Hp} (e : Ex H H') : Stp n ow H (zw n ow H) H' := by
  refine ⟨fun a o h => ?_, fun m hm a o h => ?_, ex_dom e⟩
  · obtain ⟨h1, h2⟩ := pt_some h
    exact pt_of ((zw_old h1).trans h2) (e a o h1)
  · obtain ⟨h1, h2⟩ := pt_some h
    exact pt_of ((zw_old h1).trans h2) (e a o h1)
theorem Stp.le {n : Nat} {ow ow' : Addr → Nat} {H H' : Hp} (s : Stp n ow H ow' H') {a : Addr} {o : HO} (h : H a = some o) (ha : ow a = 0 ∨ n < ow a) : H' a = some o ∧ ow' a = ow a := by
  rcases ha with ha | ha
  · obtain ⟨h1, h2⟩ := pt_some (s.fz a o (pt_of ha h))
    exact ⟨h1, h2.trans ha.symm⟩
  · exact pt_some (s.fr _ ha a o (pt_of rfl h))
/-- a list display whose list is a slot's own -/
theorem wv_lst {Q : Sv X.K → Prop} (h : WA X es S fun ds => ds.length ≤ sizeLine ∧ Q (.own ds)) : WV X (.List es pos) S Q := fun ow H σ Q' st k => by
  refine PE.we (pe_lst pa_W) ?_
  refine h ow H σ _ st fun ds vs ow1 H1 q st1 e1 i1 => ⟨by rw [i1.length]; exact q.1, fun p hp => ?_⟩
  have ex : Ex H1 (upd H1 p (.lst vs)) := Evl.Ex.new hp
  have hp0 : H p = none := e1.dm p hp
  refine k (.own ds) _ (zw S.length ow1 H1) _ q.2 (st1.zone ex) (e1.trans (.zone ex)) ⟨p, vs, rfl, ?_, i1.mono (Stp.zone (n := S.length) (ow := ow1) ex).fz⟩
  exact zn_of hp0 (zw_new hp) upd_same

/-! ### several such values, and how they are stored -/
def Kva (K : PySem.W.Frag) (S : Sto K) (σ : L2.St) (ow : Addr → Nat) (H : Hp) (Q : List (Sv K) → Prop) (Q' : List V → Hp → Prop) : Prop :=
  ∀ (ss : List (Sv K)) (vs : List V) (z : Addr → Nat) (ow' : Addr → Nat) (H' : Hp), Q ss → Std K ow' H' σ S → Stp S.length ow H ow' H' → ss.length = vs.length →
    (∀ (k : Nat) (s : Sv K) (v : V), ss[k]? = some s → vs[k]? = some v → s.ok (fz ow' H') (fun x => if z x = k then zn S.length ow' H H' x else none) (some v)) → Q' vs H'
def WVA (X : Cx) (es : List Expr) (S : Sto X.K) (Q : List (Sv X.K) → Prop) : Prop := ∀ (ow : Addr → Nat) (H : Hp) (σ : L2.St) (Q' : List V → Hp → Prop), Std X.K ow H σ S → Kva X.K S σ ow H Q Q' → WAr X es σ H Q'
theorem wva_nil {Q : List (Sv X.K) → Prop} (q : Q []) : WVA X [] S Q := fun ow H σ Q' st k => PA.we pa_nil (k [] [] (fun _ => 0) ow H q st (Stp.refl _ _ _) rfl (fun k s v h => by simp at h))
theorem wva_cons {Q : List (Sv X.K) → Prop} (h : WV X e S fun s => WVA X es S fun ss => Q (s :: ss)) (hs : starEach (e :: es) X.env = (false, eval e X.env) :: starEach es X.env := by rfl) : WVA X (e :: es) S Q := fun ow H σ Q' st k => by
  refine PA.we (pa_cons pe_W pa_W hs) ?_
  refine h ow H σ _ st fun s v ow1 H1 h1 st1 e1 ok1 => ?_
  refine h1 ow1 H1 σ _ st1 fun ss vs z' ow2 H2 q st2 e2 hl oks => ?_
  refine k (s :: ss) (v :: vs) (fun x => match H1 x with
    | none => z' x + 1
    | some _ => 0) ow2 H2 q st2 (e1.trans e2) (by rw [List.length_cons, List.length_cons, hl]) fun k s' v' hs' hv' => ?_
  cases k with
  | zero =>
    simp only [List.getElem?_cons_zero, Option.some.injEq] at hs' hv'
    subst hs' hv'
    refine s.mono e2.fz (fun x o hx => ?_) ok1
    obtain ⟨x1, x2, x3⟩ := zn_some hx
    obtain ⟨y1, y2⟩ := e2.le x3 (.inr (by omega))
    have z0 : (match H1 x with | none => z' x + 1 | some _ => 0) = 0 := by rw [x3]
    show (if (match H1 x with | none => z' x + 1 | some _ => 0) = 0 then zn S.length ow2 H H2 x else none) = some o
    rw [if_pos z0]
    exact zn_of x1 (y2.trans x2) y1
  | succ k =>
    simp only [List.getElem?_cons_succ] at hs' hv'
    refine s'.mono (Evl.Ex.refl _) (fun x o hx => ?_) (oks k s' v' hs' hv')
    have hx' : (if z' x = k then zn S.length ow2 H1 H2 x else none) = some o := hx
    by_cases c : z' x = k
    · rw [if_pos c] at hx'
      obtain ⟨x1, x2, x3⟩ := zn_some hx'
      have z0 : (match H1 x with | none => z' x + 1 | some _ => 0) = k + 1 := by rw [x1, c]
      show (if (match H1 x with | none => z' x + 1 | some _ => 0) = k + 1 then zn S.length ow2 H H2 x else none) = some o
      rw [if_pos z0]
      exact zn_of (e1.dm x x1) x2 x3
    · rw [if_neg c] at hx'
      cases hx'
end
def setAll {α : Type} : List Nat → List α → List α → List α
  | j :: js, s :: ss, S => setAll js ss (S.set j s)
  | _, _, S => S
def setV : List Nat → List V → L2.St → L2.St
  | j :: js, v :: vs, σ => setV js vs (σ.set j (some v))
  | _, _, σ => σ
/-- one after another -/
theorem store_all {K : PySem.W.Frag} {H' : Hp} : ∀ (js : List Nat) (ss : List (Sv K)) (vs : List V) (bs : Addr → Bool) (z ow : Addr → Nat) (σ : L2.St) (S : Sto K) (ow0 : Addr → Nat) (H0 : Hp), Std K ow H' σ S → ss.length = vs.length →
    (∀ (k : Nat) (s : Sv K) (v : V), ss[k]? = some s → vs[k]? = some v → s.ok (fz ow H') (fun x => if bs x = true ∧ z x = k ∧ ow x = S.length + 1 then H' x else none) (some v)) → (∀ j ∈ js, j < S.length) →
    Stp S.length ow0 H0 ow H' → (∀ x, bs x = true → H0 x = none) → ∃ ow', Std K ow' H' (setV js vs σ) (setAll js ss S) ∧ Stp S.length ow0 H0 ow' H' ∧ (setAll js ss S).length = S.length
  | [], ss, vs, bs, z, ow, σ, S, ow0, H0, st, hl, ok, hj, sp, hb => ⟨ow, st, sp, rfl⟩
  | j :: js, [], vs, bs, z, ow, σ, S, ow0, H0, st, hl, ok, hj, sp, hb => by
    cases vs with
    | nil => exact ⟨ow, st, sp, rfl⟩
    | cons v vs => simp at hl
  | j :: js, s :: ss, [], bs, z, ow, σ, S, ow0, H0, st, hl, ok, hj, sp, hb => by simp at hl
  | j :: js, s :: ss, v :: vs, bs, z, ow, σ, S, ow0, H0, st, hl, ok, hj, sp, hb => by
    have hjS : j < S.length := hj j List.mem_cons_self
    let ow1 : Addr → Nat := fun x => if bs x = true ∧ z x = 0 ∧ ow x = S.length + 1 then j + 1 else ow x
    have w1 : ∀ x, ¬ (bs x = true ∧ z x = 0 ∧ ow x = S.length + 1) → ow1 x = ow x := fun x c => if_neg c
    have w2 : ∀ x, bs x = true ∧ z x = 0 ∧ ow x = S.length + 1 → ow1 x = j + 1 := fun x c => if_pos c
    have pte : ∀ m, m ≠ j + 1 → m ≠ S.length + 1 → pt ow1 m H' = pt ow m H' := fun m h1 h2 => by
      funext x
      unfold pt
      by_cases c : bs x = true ∧ z x = 0 ∧ ow x = S.length + 1
      · rw [w2 x c, if_neg (Ne.symm h1), if_neg (by rw [c.2.2]; exact Ne.symm h2)]
      · rw [w1 x c]
    have fze : fz ow1 H' = fz ow H' := pte 0 (by omega) (by omega)
    have st1 : Std K ow1 H' (σ.set j (some v)) (S.set j s) := by
      refine ⟨by rw [List.length_set, List.length_set]; exact st.len, fun i t h => ?_⟩
      rw [fze]
      by_cases e : i = j
      · subst e
        rw [List.getElem?_set_self hjS] at h
        cases h
        rw [List.getElem?_set_self (by rw [← st.len]; exact hjS)]
        refine s.mono (Evl.Ex.refl _) (fun x o hx => ?_) (ok 0 s v rfl rfl)
        have hx' : (if bs x = true ∧ z x = 0 ∧ ow x = S.length + 1 then H' x else none) = some o := hx
        by_cases c : bs x = true ∧ z x = 0 ∧ ow x = S.length + 1
        · rw [if_pos c] at hx'
          exact pt_of (w2 x c) hx'
        · rw [if_neg c] at hx'
          cases hx'
      · rw [List.getElem?_set_ne (Ne.symm e)] at h
        have hi : i < S.length := (List.getElem?_eq_some_iff.mp h).1
        rw [List.getElem?_set_ne (Ne.symm e), pte (i + 1) (by omega) (by omega)]
        exact st.sl i t h
    have sp1 : Stp (S.set j s).length ow0 H0 ow1 H' := by
      rw [List.length_set]
      refine ⟨by rw [fze]; exact sp.fz, fun m hm a o h => ?_, sp.dm⟩
      obtain ⟨a1, a2⟩ := pt_some h
      obtain ⟨a3, a4⟩ := sp.le a1 (.inr (by omega))
      refine pt_of ?_ a3
      rw [w1 a (fun c => by rw [hb a c.1] at a1; cases a1), a4]
      exact a2
    obtain ⟨ow', r1, r2, r3⟩ := store_all js ss vs (fun x => bs x && !(z x == 0)) (fun x => z x - 1) ow1 (σ.set j (some v)) (S.set j s) ow0 H0 st1 (by simpa using hl) (fun k s' v' h1 h2 => by
        rw [fze]
        refine s'.mono (Evl.Ex.refl _) (fun x o hx => ?_) (ok (k + 1) s' v' (by simpa using h1) (by simpa using h2))
        have hx' : (if bs x = true ∧ z x = k + 1 ∧ ow x = S.length + 1 then H' x else none) = some o := hx
        by_cases c : bs x = true ∧ z x = k + 1 ∧ ow x = S.length + 1
        · rw [if_pos c] at hx'
          show (if (bs x && !(z x == 0)) = true ∧ z x - 1 = k ∧ ow1 x = (S.set j s).length + 1 then H' x else none) = some o
          rw [if_pos ⟨by rw [c.1, c.2.1]; rfl, by omega, by rw [w1 x (fun q => by omega), List.length_set]; exact c.2.2⟩]
          exact hx'
        · rw [if_neg c] at hx'
          cases hx') (fun i hi => by rw [List.length_set]; exact hj i (List.mem_cons_of_mem _ hi)) sp1 (fun x hx => hb x (by
        simp only [Bool.and_eq_true] at hx
        exact hx.1))
    rw [List.length_set] at r2 r3
    exact ⟨ow', r1, r2, r3⟩
/-- what wva gives is stored -/
theorem Kva.store {K : PySem.W.Frag} {S : Sto K} {σ : L2.St} {ow ow' : Addr → Nat} {H H' : Hp} {ss : List (Sv K)} {vs : List V} {z : Addr → Nat} {js : List Nat} (st : Std K ow' H' σ S) (sp : Stp S.length ow H ow' H') (hl : ss.length = vs.length)
    (ok : ∀ (k : Nat) (s : Sv K) (v : V), ss[k]? = some s → vs[k]? = some v → s.ok (fz ow' H') (fun x => if z x = k then zn S.length ow' H H' x else none) (some v)) (hj : ∀ j ∈ js, j < S.length) :
    ∃ ow2, Std K ow2 H' (setV js vs σ) (setAll js ss S) ∧ Stp S.length ow H ow2 H' ∧ (setAll js ss S).length = S.length := by
  refine store_all js ss vs (fun x => (H x).isNone) z ow' σ S ow H st hl (fun k s v h1 h2 => s.mono (Evl.Ex.refl _) (fun x o hx => ?_) (ok k s v h1 h2)) hj sp (fun x hx => by simpa using hx)
  have hx' : (if z x = k then zn S.length ow' H H' x else none) = some o := hx
  by_cases c : z x = k
  · rw [if_pos c] at hx'
    obtain ⟨x1, x2, x3⟩ := zn_some hx'
    show (if (H x).isNone = true ∧ z x = k ∧ ow' x = S.length + 1 then H' x else none) = some o
    rw [if_pos ⟨by rw [x1]; rfl, c, x2⟩]
    exact x3
  · rw [if_neg c] at hx'
    cases hx'
/-- one value is stored -/
theorem Kv.store {K : PySem.W.Frag} {S : Sto K} {σ : L2.St} {ow ow' : Addr → Nat} {H H' : Hp} {s : Sv K} {v : V} {j : Nat} (st : Std K ow' H' σ S) (sp : Stp S.length ow H ow' H') (ok : s.ok (fz ow' H') (zn S.length ow' H H') (some v)) (hj : j < S.length) :
    ∃ ow2, Std K ow2 H' (σ.set j (some v)) (S.set j s) ∧ Stp S.length ow H ow2 H' := by
  obtain ⟨ow2, a, b, _⟩ := Kva.store (js := [j]) (ss := [s]) (vs := [v]) (z := fun _ => 0) st sp rfl (fun k t u h1 h2 => by
    cases k with
    | zero =>
      simp only [List.getElem?_cons_zero, Option.some.injEq] at h1 h2
      subst h1 h2
      exact s.mono (Evl.Ex.refl _) (fun x o hx => by rw [if_pos rfl]; exact hx) ok
    | succ k => simp at h1) (fun i hi => by
    rcases List.mem_cons.mp hi with rfl | hi
    · exact hj
    · cases hi)
  exact ⟨ow2, a, b⟩
end K3
end

section
set_option autoImplicit true
set_option Elab.async false
set_option linter.all false
set_option maxRecDepth 100000
set_option maxHeartbeats 1000000
/-! Statements over data. -/
namespace K3
open PySem PySem.Spec PyProof.Rows L2
section
variable (X : Cx)
structure W1r (st : Stmt) (D : Ends) (σ : L2.St) (H : Hp) : Prop where
  r : ∀ (pins : List (Addr × Obj)) (s : Shared), Inv X pins σ H s → wpAny (model X.prog X.w) X.A (exec st X.env) (SP X pins D) X.xe s
structure WSr (st : List Stmt) (D : Ends) (σ : L2.St) (H : Hp) : Prop where
  r : ∀ (pins : List (Addr × Obj)) (s : Shared), Inv X pins σ H s → wpAny (model X.prog X.w) X.A (execs st X.env) (SP X pins D) X.xe s
variable {X}
theorem ps_W {st : Stmt} : PS X st (W1r X st) := ⟨fun pins s _ _ _ I h => h.r pins s I⟩
theorem pss_W {st : List Stmt} : PSs X st (WSr X st) := ⟨fun pins s _ _ _ I h => h.r pins s I⟩
theorem PS.we {st : Stmt} {t : TS} {D : Ends} {σ : L2.St} {H : Hp} (h : PS X st t) (q : t D σ H) : W1r X st D σ H := ⟨fun pins s I => h.run pins s σ H D I q⟩
theorem PSs.we {st : List Stmt} {t : TS} {D : Ends} {σ : L2.St} {H : Hp} (h : PSs X st t) (q : t D σ H) : WSr X st D σ H := ⟨fun pins s I => h.run pins s σ H D I q⟩
end
/-- what is wanted behind a statement, over data -/
structure De (K : PySem.W.Frag) where
  nx : Sto K → Prop
  rt : D → Sto K → Prop
  bk : Sto K → Prop := fun _ => False
  ct : Sto K → Prop := fun _ => False
def Mt (K : PySem.W.Frag) (n : Nat) (ow : Addr → Nat) (H : Hp) (P : Sto K → Prop) (E : L2.St → Hp → Prop) : Prop :=
  ∀ (S' : Sto K) (ow' : Addr → Nat) (H' : Hp) (σ' : L2.St), P S' → S'.length = n → Std K ow' H' σ' S' → Stp n ow H ow' H' → E σ' H'
structure Meets (K : PySem.W.Frag) (n : Nat) (ow : Addr → Nat) (H : Hp) (D : De K) (E : Ends) : Prop where
  nx : Mt K n ow H D.nx E.nx
  rt : ∀ (d : K3.D) (v : V) (S' : Sto K) (ow' : Addr → Nat) (H' : Hp) (σ' : L2.St), D.rt d S' → S'.length = n → Std K ow' H' σ' S' → Stp n ow H ow' H' → Is K (fz ow' H') v d → E.rt v H'
  bk : Mt K n ow H D.bk E.bk
  ct : Mt K n ow H D.ct E.ct
def WS (X : Cx) (st : Stmt) (S : Sto X.K) (D : De X.K) : Prop := ∀ (ow : Addr → Nat) (H : Hp) (σ : L2.St) (E : Ends), Std X.K ow H σ S → Meets X.K S.length ow H D E → W1r X st E σ H
def WSs (X : Cx) (st : List Stmt) (S : Sto X.K) (D : De X.K) : Prop := ∀ (ow : Addr → Nat) (H : Hp) (σ : L2.St) (E : Ends), Std X.K ow H σ S → Meets X.K S.length ow H D E → WSr X st E σ H
section
variable {K : PySem.W.Frag} {n : Nat} {ow ow1 : Addr → Nat} {H H1 : Hp} {P : Sto K → Prop} {E : L2.St → Hp → Prop}
theorem Mt.step (m : Mt K n ow H P E) (s : Stp n ow H ow1 H1) : Mt K n ow1 H1 P E := fun S' ow' H' σ' p l st sp => m S' ow' H' σ' p l st (s.trans sp)
theorem Meets.step {D : De K} {E : Ends} (m : Meets K n ow H D E) (s : Stp n ow H ow1 H1) : Meets K n ow1 H1 D E :=
  ⟨m.nx.step s, fun d v S' ow' H' σ' p l st sp => m.rt d v S' ow' H' σ' p l st (s.trans sp), m.bk.step s, m.ct.step s⟩
end
section
variable {X : Cx} {S : Sto X.K} {D : De X.K} {st : Stmt} {rest a b : List Stmt} {e c : Expr} {es : List Expr} {pos : Pos}
theorem wss_nil (q : D.nx S) : WSs X [] S D := fun ow H σ E st m => PSs.we pss_nil (m.nx S ow H σ q rfl st (Stp.refl _ _ _))
theorem wss_cons (h : WS X st S { D with nx := fun S' => S'.length = S.length → WSs X rest S' D }) : WSs X (st :: rest) S D := fun ow H σ E std m => by
  refine PSs.we (pss_cons ps_W pss_W) ?_
  refine h ow H σ _ std ⟨fun S' ow' H' σ' q l st' sp => ?_, m.rt, m.bk, m.ct⟩
  have m' : Meets X.K S'.length ow' H' D E := by rw [l]; exact m.step sp
  exact q l ow' H' σ' E st' m'
theorem wss_one (h : WS X st S D) : WSs X [st] S D := fun ow H σ E std m => PSs.we (pss_one ps_W) (h ow H σ E std m)
/-- a slot's own list is frozen -/
theorem wss_frz (i : Nat) {xs : List K3.D} {sts : List Stmt} (h : S[i]? = some (.own xs)) (q : WSs X sts (S.set i (.dat (.list xs))) D) : WSs X sts S D := fun ow H σ E std m => by
  obtain ⟨ow1, st1, sp⟩ := std.freeze h
  have m' : Meets X.K (S.set i (.dat (.list xs))).length ow1 H D E := by rw [List.length_set]; exact m.step sp
  exact q ow1 H σ E st1 m'
/-- a slot's own dict is locked, it is data from then on -/
theorem wss_frzD (i : Nat) {ks : List (Int × K3.D)} {sts : List Stmt} (h : S[i]? = some (.odic ks)) (q : WSs X sts (S.set i (.dat (dicD ks))) D) : WSs X sts S D := fun ow H σ E std m => .mk fun pins s I => by
  obtain ⟨l, kvs, ev, g, o, ik⟩ := std.odic h
  obtain ⟨od, I1⟩ := I.lock g trivial
  have hi : i < S.length := (List.getElem?_eq_some_iff.mp h).1
  have hne : ∀ {a}, ow a ≠ i + 1 → a ≠ l := fun {a} c e => c (by rw [e]; exact o)
  have fze : Ex (fz ow H) (fz (fun a => if ow a = i + 1 then 0 else ow a) (upd H l (.frz od (.dK kvs)))) := fun a u z => by
    obtain ⟨z1, z2⟩ := pt_some z
    refine pt_of ?_ (by rw [upd_ne (hne (by omega))]; exact z1)
    show (if ow a = i + 1 then 0 else ow a) = 0
    rw [if_neg (by omega)]
    exact z2
  have pte : ∀ n, n ≠ i + 1 → n ≠ 0 → pt (fun a => if ow a = i + 1 then 0 else ow a) n (upd H l (.frz od (.dK kvs))) = pt ow n H := fun n h1 h0 => by
    funext a
    unfold pt
    show (if (if ow a = i + 1 then 0 else ow a) = n then upd H l (.frz od (.dK kvs)) a else none) = if ow a = n then H a else none
    by_cases c : ow a = i + 1
    · rw [if_pos c, if_neg (Ne.symm h0), if_neg (by omega)]
    · rw [if_neg c, upd_ne (hne c)]
  refine (q (fun a => if ow a = i + 1 then 0 else ow a) (upd H l (.frz od (.dK kvs))) σ E ⟨by rw [List.length_set]; exact std.len, fun j s hs => ?_⟩ ?_).r pins s I1
  · by_cases ej : j = i
    · subst ej
      rw [List.getElem?_set_self hi] at hs
      cases hs
      rw [ev]
      refine ⟨.ref l, rfl, .dic ⟨od, pt_of ?_ upd_same⟩ (ik.mono fze)⟩
      exact if_pos o
    · rw [List.getElem?_set_ne (Ne.symm ej)] at hs
      rw [pte (j + 1) (by omega) (by omega)]
      exact s.mono fze (Evl.Ex.refl _) (std.sl j s hs)
  · have st : Stp S.length ow H (fun a => if ow a = i + 1 then 0 else ow a) (upd H l (.frz od (.dK kvs))) := by
      refine ⟨fze, fun n hn => by rw [pte n (by omega) (by omega)]; exact Evl.Ex.refl _, fun a ha => ?_⟩
      by_cases c : a = l
      · rw [c, upd_same] at ha
        cases ha
      · rw [upd_ne c] at ha
        exact ha
    rw [List.length_set]
    exact m.step st
theorem ws_never (h : False) : WS X st S D := h.elim
theorem ws_pass (q : D.nx S) : WS X (.Pass pos) S D := fun ow H σ E st m => PS.we ps_pass (m.nx S ow H σ q rfl st (Stp.refl _ _ _))
/-- x = e -/
theorem ws_asg (i : Nat) {x : Str} {pos' : Pos} (nd : X.N.Nodup) (hi : i < S.length) (h : WV X e S fun s => D.nx (S.set i s)) (hN : X.N[i]? = some x := by rfl) (hx : Loc X.env.scope x := by first | exact Or.inl rfl | exact Or.inr rfl)
    (hs : swapsWith e (some (.Name x pos')) pos.line X.env = pure false := by rfl) (hf : X.fn x = true ∨ X.env.scope.names.lookup x = some .local := by first | exact .inl rfl | exact .inr rfl) : WS X (.Assign [.Name x pos'] e pos) S D := fun ow H σ E st m => by
  refine PS.we (ps_set nd hN hx pe_W hs hf) ?_
  refine h ow H σ _ st fun s v ow1 H1 q st1 e1 ok => ?_
  obtain ⟨ow2, st2, e2⟩ := Kv.store st1 e1 ok hi
  exact m.nx _ ow2 H1 _ q (by rw [List.length_set]) st2 e2
/-- names as targets -/
def gNames : List Nat → TGs
  | [] => gNil
  | j :: js => gCons (gName j) (gNames js)
theorem gNames_go : ∀ {js : List Nat} {vs : List V} {σ : L2.St} {H : Hp} {Q : L2.St → Hp → Prop}, vs.length = js.length → Q (setV js vs σ) H → gNames js vs σ H Q
  | [], [], _, _, _, _, q => ⟨rfl, q⟩
  | [], _ :: _, _, _, _, l, _ => by simp at l
  | _ :: _, [], _, _, _, l, _ => by simp at l
  | j :: js, v :: vs, σ, H, Q, l, q => ⟨v, vs, rfl, gNames_go (js := js) (by simpa using l) q⟩
theorem setV_len : ∀ {js : List Nat} {vs : List V} {σ : L2.St}, (setV js vs σ).length = σ.length
  | [], _, _ => rfl
  | _ :: _, [], _ => rfl
  | j :: js, v :: vs, σ => by
    unfold setV
    rw [setV_len, List.length_set]
/-- data stored one after another -/
theorem Std.setAll {K : PySem.W.Frag} {ow : Addr → Nat} {H : Hp} : ∀ {js : List Nat} {vs : List V} {ds : List K3.D} {σ : L2.St} {S : Sto K}, Std K ow H σ S → IsA K (fz ow H) vs ds → (∀ j ∈ js, j < S.length) → Std K ow H (setV js vs σ) (K3.setAll js (ds.map Sv.dat) S)
  | [], _, _, _, _, st, _, _ => st
  | _ :: _, _, _, _, _, st, .nil, _ => st
  | j :: js, _, _, σ, S, st, .cons h t, hj => by
    show Std K ow H (setV js _ (σ.set j _)) (K3.setAll js _ (S.set j _))
    exact Std.setAll (st.set (hj j List.mem_cons_self) h) t fun i hi => by rw [List.length_set]; exact hj i (List.mem_cons_of_mem _ hi)
theorem setAll_len {α : Type} : ∀ {js : List Nat} {ss S : List α}, (setAll js ss S).length = S.length
  | [], _, _ => rfl
  | _ :: _, [], _ => rfl
  | j :: js, s :: ss, S => by
    unfold setAll
    rw [setAll_len, List.length_set]
/-- a, b, .. = e, e a tuple -/
theorem ws_unp (js : List Nat) {tes : List Expr} {k : Nat} {tp : Pos} (hc : X.calm = true) (hg : PGs X tes (gNames js)) (hj : ∀ j ∈ js, j < S.length) (h : W X e S fun d => ∃ ds, d = .tuple ds ∧ ds.length = js.length ∧ D.nx (setAll js (ds.map .dat) S))
    (hn : (assignEach tes X.env).length = js.length := by rfl) (hst : (assignEach tes X.env).findIdx? (·.1) = none := by rfl)
    (hs : swapsWithSole [.Tuple tes k tp] e pos.line X.env = pure false := by rfl) (hw : swappedStores [.Tuple tes k tp] e X.env = pure none := by rfl) (h1 : (assignEach [.Tuple tes k tp] X.env).map (·.2) = [assign (.Tuple tes k tp) X.env] := by rfl) :
    WS X (.Assign [.Tuple tes k tp] e pos) S D := fun ow H σ E st m => by
  refine PS.we (ps_asg pe_W (pg_tup hc hg hn hst) hs hw h1) ?_
  refine h ow H σ _ st fun d v ow1 H1 q st1 e1 i1 => ?_
  obtain ⟨ds, rfl, hl, q⟩ := q
  cases i1 with
  | tup p a =>
    have hl' := a.length
    refine ⟨_, _, rfl, (p.mono pt_le).sq, by rw [hl']; exact hl, gNames_go (by rw [hl']; exact hl) ?_⟩
    exact m.nx _ ow1 H1 _ q setAll_len (st1.setAll a hj) e1
/-- a, b, .. = e1, e2, .. (the tuple is made) -/
theorem ws_tup (js : List Nat) {tes : List Expr} {k k2 : Nat} {tp p2 : Pos} (hc : X.calm = true) (hg : PGs X tes (gNames js)) (hj : ∀ j ∈ js, j < S.length) (h : WVA X es S fun ss => ss.length = js.length ∧ D.nx (setAll js ss S))
    (hz : js.length ≤ 100 := by decide) (hn : (assignEach tes X.env).length = js.length := by rfl) (hst : (assignEach tes X.env).findIdx? (·.1) = none := by rfl)
    (hs : swapsWithSole [.Tuple tes k tp] (.Tuple es k2 p2) pos.line X.env = pure false := by rfl) (hw : swappedStores [.Tuple tes k tp] (.Tuple es k2 p2) X.env = pure none := by rfl) (h1 : (assignEach [.Tuple tes k tp] X.env).map (·.2) = [assign (.Tuple tes k tp) X.env] := by rfl) :
    WS X (.Assign [.Tuple tes k tp] (.Tuple es k2 p2) pos) S D := fun ow H σ E st m => by
  refine PS.we (ps_asg (pe_tup pa_W) (pg_tup hc hg hn hst) hs hw h1) ?_
  refine h ow H σ _ st fun ss vs z ow1 H1 q st1 e1 hl ok => ?_
  obtain ⟨ql, q⟩ := q
  refine ⟨Nat.le_trans (by rw [← hl, ql]; exact hz) (by decide : 100 ≤ sizeLine), fun p hp => ?_⟩
  refine ⟨p, vs, rfl, SqT.of upd_same, by rw [← hl]; exact ql, gNames_go (by rw [← hl]; exact ql) ?_⟩
  obtain ⟨ow2, st2, e2, l2⟩ := Kva.store (js := js) st1 e1 hl ok hj
  have ex : Ex H1 (upd H1 p (.tup vs)) := Evl.Ex.new hp
  exact m.nx _ _ _ _ q setAll_len (st2.ext ex) (e2.trans (.ext ex))
/-- .. two locals, swapped -/
theorem ws_par {i j : Nat} {x y : Str} {a b : Expr} {px py ptt : Pos} {kt k2 : Nat} {p2 : Pos} (hc : X.calm = true) (nd : X.N.Nodup) (hij : i ≠ j) (hl : i < S.length ∧ j < S.length) (h : WVA X [a, b] S fun ss => ss.length = 2 ∧ D.nx (setAll [i, j] ss S))
    (hi : X.N[i]? = some x := by rfl) (hj : X.N[j]? = some y := by rfl) (hx : X.env.scope.names.lookup x = some .local := by rfl) (hy : X.env.scope.names.lookup y = some .local := by rfl)
    (hw : swappedStores [.Tuple [.Name x px, .Name y py] kt ptt] (.Tuple [a, b] k2 p2) X.env = pure (some [x, y]) := by rfl)
    (hs : swapsWithSole [.Tuple [.Name x px, .Name y py] kt ptt] (.Tuple [a, b] k2 p2) pos.line X.env = pure false := by rfl) :
    WS X (.Assign [.Tuple [.Name x px, .Name y py] kt ptt] (.Tuple [a, b] k2 p2) pos) S D := fun ow H σ E st m => by
  refine PS.we (ps_par hc nd hi hj hij hx hy pa_W hw hs) ?_
  refine h ow H σ _ st fun ss vs z ow1 H1 q st1 e1 hl' ok => ?_
  obtain ⟨ow2, st2, e2, l2⟩ := Kva.store (js := [i, j]) st1 e1 hl' ok (fun k hk => by
    rcases List.mem_cons.mp hk with rfl | hk
    · exact hl.1
    · rcases List.mem_cons.mp hk with rfl | hk
      · exact hl.2
      · cases hk)
  match ss, vs, q.1, hl' with
  | [s1, s2], [v1, v2], _, _ => exact ⟨v1, v2, rfl, m.nx _ ow2 H1 _ q.2 setAll_len st2 e2⟩
/-- .. three locals -/
theorem ps_par3 {i j k : Nat} {x y z : Str} {a b c : Expr} {ta : TA} {px py pz ptt : Pos} {kt k2 : Nat} {p2 : Pos} (hc : X.calm = true) (hN : X.N.Nodup) (hi : X.N[i]? = some x) (hj : X.N[j]? = some y) (hk : X.N[k]? = some z) (hij : i ≠ j) (hik : i ≠ k) (hjk : j ≠ k)
    (hx : X.env.scope.names.lookup x = some .local) (hy : X.env.scope.names.lookup y = some .local) (hz : X.env.scope.names.lookup z = some .local) (ha : PA X [a, b, c] ta)
    (hw : swappedStores [.Tuple [.Name x px, .Name y py, .Name z pz] kt ptt] (.Tuple [a, b, c] k2 p2) X.env = pure (some [x, y, z]))
    (hs : swapsWithSole [.Tuple [.Name x px, .Name y py, .Name z pz] kt ptt] (.Tuple [a, b, c] k2 p2) pos.line X.env = pure false) :
    PS X (.Assign [.Tuple [.Name x px, .Name y py, .Name z pz] kt ptt] (.Tuple [a, b, c] k2 p2) pos) (fun D σ H => ta σ H fun vs H1 => ∃ u v w, vs = [u, v, w] ∧ D.nx (((σ.set i (some u)).set j (some v)).set k (some w)) H1) := by
  refine ⟨fun pins s σ H D I h => ?_⟩
  rw [exec_Assign_arm]
  refine wpAny_bind (wpAny_standAt ?_)
  rw [hs]
  refine wpAny_bind (wpAny_pure ?_)
  rw [if_neg (by decide)]
  refine wpAny_bind (Tuple_ (thn (ha.run _ pins s σ H _ I h) fun us s1 ⟨vs, H1, I1, r1, q1⟩ => ?_))
  obtain ⟨v1, v2, v3, e1, q1⟩ := q1
  subst e1
  obtain ⟨u1, u2, u3, rfl, r1, r2, r3⟩ : ∃ u1 u2 u3, us = [u1, u2, u3] ∧ RelV v1 u1 ∧ RelV v2 u2 ∧ RelV v3 u3 := by
    cases r1 with
    | cons p q =>
      cases q with
      | cons p' q' =>
        cases q' with
        | cons p'' q'' =>
          cases q''
          exact ⟨_, _, _, rfl, p, p', p''⟩
  refine wpAny_newObj_type ?_ (by show 3 ≤ sizeLine; decide)
  have I2 : Inv X pins σ H1 { s1 with heap := s1.heap.push { cls := .type "tuple", data := .seq [u1, u2, u3].toArray } } := I1.kept (t' := s1.toks) fun b o e => Heap.get?_push_of_some _ e
  rw [hw]
  refine wpAny_bind (wpAny_pure ?_)
  show wpAny (model X.prog X.w) X.A (do rule "assign.swapped-stores"; let items ← unpackItems (.ref s1.heap.objs.size) 3 none; assignInOrder [fun v => bindName X.env z v, fun v => bindName X.env y v, fun v => bindName X.env x v] items.reverse; pure Flow.next) _ _ _
  refine wpAny_bind (wpAny_rule (wpAny_bind (unpackItems_tuple (items := #[u1, u2, u3]) (I.ok.hd hc) (IsTup.new s1.heap _) fun h' hx' => ?_)))
  have I3 := I2.kept (h' := h') (t' := s1.toks) fun b o e => hx' b o (Nat.ne_of_lt (Heap.lt_size e)) e
  show wpAny _ _ (assignInOrder [fun v => bindName X.env z v, fun v => bindName X.env y v, fun v => bindName X.env x v] [u3, u2, u1] >>= fun _ => pure Flow.next) _ _ _
  refine wpAny_bind (assignInOrder_cons (wpAny_bindName (store_ok I3 hN hk (.inl hz) r3 (fun s2 I4 => ?_) (.inr hz))))
  refine assignInOrder_cons (wpAny_bindName (store_ok I4 hN hj (.inl hy) r2 (fun s3 I5 => ?_) (.inr hy)))
  refine assignInOrder_cons (wpAny_bindName (store_ok I5 hN hi (.inl hx) r1 (fun s4 I6 => assignInOrder_nil (wpAny_pure ?_)) (.inr hx)))
  have es : ((σ.set k (some v3)).set j (some v2)).set i (some v1) = ((σ.set i (some v1)).set j (some v2)).set k (some v3) := by
    rw [List.set_comm (some v3) (some v2) (Ne.symm hjk), List.set_comm (some v3) (some v1) (Ne.symm hik), List.set_comm (some v2) (some v1) (Ne.symm hij)]
  rw [es] at I6
  exact ⟨_, H1, I6, q1⟩
theorem ws_par3 {i j k : Nat} {x y z : Str} {a b c : Expr} {px py pz ptt : Pos} {kt k2 : Nat} {p2 : Pos} (hc : X.calm = true) (nd : X.N.Nodup) (hij : i ≠ j) (hik : i ≠ k) (hjk : j ≠ k) (hl : i < S.length ∧ j < S.length ∧ k < S.length) (h : WVA X [a, b, c] S fun ss => ss.length = 3 ∧ D.nx (setAll [i, j, k] ss S))
    (hi : X.N[i]? = some x := by rfl) (hj : X.N[j]? = some y := by rfl) (hk : X.N[k]? = some z := by rfl) (hx : X.env.scope.names.lookup x = some .local := by rfl) (hy : X.env.scope.names.lookup y = some .local := by rfl) (hz : X.env.scope.names.lookup z = some .local := by rfl)
    (hw : swappedStores [.Tuple [.Name x px, .Name y py, .Name z pz] kt ptt] (.Tuple [a, b, c] k2 p2) X.env = pure (some [x, y, z]) := by rfl)
    (hs : swapsWithSole [.Tuple [.Name x px, .Name y py, .Name z pz] kt ptt] (.Tuple [a, b, c] k2 p2) pos.line X.env = pure false := by rfl) :
    WS X (.Assign [.Tuple [.Name x px, .Name y py, .Name z pz] kt ptt] (.Tuple [a, b, c] k2 p2) pos) S D := fun ow H σ E st m => by
  refine PS.we (ps_par3 hc nd hi hj hk hij hik hjk hx hy hz pa_W hw hs) ?_
  refine h ow H σ _ st fun ss vs z ow1 H1 q st1 e1 hl' ok => ?_
  obtain ⟨ow2, st2, e2, l2⟩ := Kva.store (js := [i, j, k]) st1 e1 hl' ok (fun t ht => by
    rcases List.mem_cons.mp ht with rfl | ht
    · exact hl.1
    · rcases List.mem_cons.mp ht with rfl | ht
      · exact hl.2.1
      · rcases List.mem_cons.mp ht with rfl | ht
        · exact hl.2.2
        · cases ht)
  match ss, vs, q.1, hl' with
  | [s1, s2, s3], [v1, v2, v3], _, _ => exact ⟨v1, v2, v3, rfl, m.nx _ ow2 H1 _ q.2 setAll_len st2 e2⟩
theorem ws_ret (h : W X e S fun d => D.rt d S) : WS X (.Return (some e) pos) S D := fun ow H σ E st m => by
  refine PS.we (ps_ret pe_W) ?_
  exact h ow H σ _ st fun d v ow1 H1 q st1 e1 i1 => m.rt d v S ow1 H1 σ q rfl st1 e1 i1
theorem ws_expr (h : W X e S fun _ => D.nx S) (hs : swapsWith e none pos.line X.env = pure false := by rfl) : WS X (.Expr e pos) S D := fun ow H σ E st m => by
  refine PS.we (ps_expr pe_W hs) ?_
  exact h ow H σ _ st fun d v ow1 H1 q st1 e1 i1 => m.nx S ow1 H1 σ q rfl st1 e1
theorem ws_if (h : WT X c S fun t => if t = true then WSs X a S D else WSs X b S D) : WS X (.If c a b pos) S D := fun ow H σ E st m => by
  refine PS.we (ps_if pt_W pss_W pss_W) ?_
  refine h ow H σ _ st fun t ow1 H1 q st1 e1 => ?_
  cases t with
  | true =>
    show WSr X a E σ H1
    rw [if_pos rfl] at q
    exact q ow1 H1 σ E st1 (m.step e1)
  | false =>
    show WSr X b E σ H1
    rw [if_neg Bool.false_ne_true] at q
    exact q ow1 H1 σ E st1 (m.step e1)
/-- x += e, x -= e (ints) -/
theorem ws_aug {op : Operator} {f : Int → Int → Int} (i : Nat) {x : Str} {pos' : Pos} {n : Int} (ho : PIp X op (ipI f)) (nd : X.N.Nodup) (hS : S[i]? = some (.dat (.int n))) (h : W X e S fun d => ∃ k, d = .int k ∧ D.nx (S.set i (.dat (.int (f n k)))))
    (hN : X.N[i]? = some x := by rfl) (hx : Loc X.env.scope x := by first | exact Or.inl rfl | exact Or.inr rfl) (hf : X.fn x = true ∨ X.env.scope.names.lookup x = some .local := by first | exact .inl rfl | exact .inr rfl) : WS X (.AugAssign (.Name x pos') op e pos) S D := fun ow H σ E st m => by
  refine PS.we (ps_aug nd hN hx pe_W ho hf) ?_
  obtain ⟨v, ev, iv⟩ := st.dat hS
  cases iv
  refine ⟨_, ev, ?_⟩
  refine h ow H σ _ st fun d v ow1 H1 q st1 e1 i1 => ?_
  obtain ⟨k, rfl, q⟩ := q
  cases i1
  have hi : i < S.length := (List.getElem?_eq_some_iff.mp hS).1
  exact ⟨_, _, rfl, rfl, m.nx _ ow1 H1 _ q (by rw [List.length_set]) (st1.set hi (.int _)) e1⟩
end
end K3
end

section
set_option autoImplicit true
set_option Elab.async false
set_option linter.all false
set_option maxRecDepth 100000
set_option maxHeartbeats 1000000
/-! Walks, loops, comprehensions over data. -/
namespace K3
open PySem PySem.Spec PyProof.Rows L2
/-- an item: data, or (p false) a passing tuple of data -/
def IsY (K : PySem.W.Frag) (p : Bool) (F H : Hp) (x : V) (d : D) : Prop := Is K F x d ∨ (p = false ∧ ∃ T vs ds, d = .tuple ds ∧ x = .ref T ∧ H T = some (.tup vs) ∧ IsA K F vs ds)
/-- J yields the data ds -/
def ItD (K : PySem.W.Frag) (J : It) (F : Hp) (ds : List D) (p : Bool) : Prop := ∀ (F' H : Hp), Ex F F' → Ex F' H → ∀ i : Nat, (ds.length ≤ i → J.stop i H) ∧ ∀ d, ds[i]? = some d → J.go i H ∧ ∀ x H', J.yld i H x H' → Ex H H' ∧ IsY K p (cut F' H H') H' x d
section
variable (X : Cx)
structure WIr (tg iter : Expr) (σ : L2.St) (H : Hp) (R : It → Hp → Prop) : Prop where
  r : ∀ (pins : List (Addr × Obj)) (s : Shared), Inv X pins σ H s → wpAny (model X.prog X.w) X.A (eval iter X.env) (fun v s1 => wpAny (model X.prog X.w) X.A (pyIter v) (PIE X pins σ tg R) X.xe s1) X.xe s
variable {X}
theorem pi_W {tg iter : Expr} : PI X tg iter (WIr X tg iter) := ⟨fun pins s _ _ _ I h => h.r pins s I⟩
theorem PI.we {tg iter : Expr} {t : TI} {σ : L2.St} {H : Hp} {R : It → Hp → Prop} (h : PI X tg iter t) (q : t σ H R) : WIr X tg iter σ H R := ⟨fun pins s I => h.run pins s σ H R I q⟩
end
def WI (X : Cx) (tg iter : Expr) (S : Sto X.K) (p : Bool) (Q : List D → Prop) : Prop := ∀ (ow : Addr → Nat) (H : Hp) (σ : L2.St) (R : It → Hp → Prop), Std X.K ow H σ S →
  (∀ (ds : List D) (J : It) (ow' : Addr → Nat) (H' : Hp), Q ds → Std X.K ow' H' σ S → Stp S.length ow H ow' H' → ItD X.K J (fz ow' H') ds p → R J H') → WIr X tg iter σ H R
section
variable {X : Cx} {S : Sto X.K} {tg iter : Expr} {p : Bool} {Q : List D → Prop}
theorem itD_list {K : PySem.W.Frag} {F : Hp} {a : Addr} {vs : List V} {ds : List D} (h : F a = some (.lst vs)) (i : IsA K F vs ds) : ItD K (Itl K a) F ds p := fun F' H f1 f2 j => by
  have hl := i.length
  have hH : H a = some (.lst vs) := f2 _ _ (f1 _ _ h)
  refine ⟨fun l => ⟨vs, SqL.of hH, by omega⟩, fun d hd => ?_⟩
  obtain ⟨v, e, iv⟩ := i.get hd
  refine ⟨⟨vs, v, SqL.of hH, e⟩, fun x H' y => ?_⟩
  obtain ⟨rfl, y⟩ := y
  have e2 := y vs (SqL.of hH)
  rw [e] at e2
  cases e2
  exact ⟨Evl.Ex.refl _, .inl (iv.mono (f1.trans (cut_le f2 (Evl.Ex.refl _))))⟩
theorem itD_tup {K : PySem.W.Frag} {F : Hp} {a : Addr} {vs : List V} {ds : List D} (h : Pt F a vs) (i : IsA K F vs ds) : ItD K (Itt K a) F ds p := fun F' H f1 f2 j => by
  have hl := i.length
  have hH : SqT K H a vs := (h.mono (f1.trans f2)).sq
  refine ⟨fun l => ⟨vs, hH, by omega⟩, fun d hd => ?_⟩
  obtain ⟨v, e, iv⟩ := i.get hd
  refine ⟨⟨vs, v, hH, e⟩, fun x H' y => ?_⟩
  obtain ⟨rfl, y⟩ := y
  have e2 := y vs hH
  rw [e] at e2
  cases e2
  exact ⟨Evl.Ex.refl _, .inl (iv.mono (f1.trans (cut_le f2 (Evl.Ex.refl _))))⟩
theorem wi_list (h : W X iter S fun d => ∃ ds, d = .list ds ∧ Q ds) : WI X tg iter S p Q := fun ow H σ R st k => by
  refine PI.we (pi_list pe_W) ?_
  refine h ow H σ _ st fun d v ow1 H1 q st1 e1 i1 => ?_
  obtain ⟨ds, rfl, q⟩ := q
  cases i1 with
  | lst pp a => exact ⟨_, rfl, ⟨_, SqL.of (pt_le _ _ pp)⟩, k ds _ ow1 H1 q st1 e1 (itD_list pp a)⟩
theorem wi_tup (h : W X iter S fun d => ∃ ds, d = .tuple ds ∧ Q ds) : WI X tg iter S p Q := fun ow H σ R st k => by
  refine PI.we (pi_tup pe_W) ?_
  refine h ow H σ _ st fun d v ow1 H1 q st1 e1 i1 => ?_
  obtain ⟨ds, rfl, q⟩ := q
  cases i1 with
  | tup pp a => exact ⟨_, rfl, ⟨_, (pp.mono pt_le).sq⟩, k ds _ ow1 H1 q st1 e1 (itD_tup pp a)⟩
/-- the ints lo, lo + c, .. -/
def rngD (lo c : Int) (n : Nat) : List D := (List.range n).map fun (i : Nat) => (PyData.int (lo + ((i : Nat) : Int) * c) : D)
theorem rngD_len (lo c : Int) (n : Nat) : (rngD lo c n).length = n := by
  unfold rngD
  rw [List.length_map, List.length_range]
theorem rngD_get {lo c : Int} {n i : Nat} {d : D} (h : (rngD lo c n)[i]? = some d) : i < n ∧ d = .int (lo + (i : Int) * c) := by
  unfold rngD at h
  rw [List.getElem?_map] at h
  by_cases hi : i < n
  · rw [List.getElem?_range hi] at h
    exact ⟨hi, (Option.some.inj h).symm⟩
  · rw [List.getElem?_eq_none_iff.mpr (by rw [List.length_range]; omega)] at h
    cases h
theorem wi_range {a : Expr} {pp pos : Pos} (hg : Gl X "range") (hm : X.mg "range" = none) (h : W X a S fun d => ∃ n : Int, d = .int n ∧ -(2 ^ 62) ≤ n ∧ n < 2 ^ 62 ∧ Q (rngD 0 1 n.toNat)) (hs : starEach [a] X.env = [(false, eval a X.env)] := by rfl) : WI X tg (.Call (.Name "range" pp) [a] [] pos) S p Q := fun ow H σ R st k => by
  refine PI.we (pi_range1 hg hm (pa_cons pe_W pa_nil hs) hs) ?_
  refine h ow H σ _ st fun d v ow1 H1 q st1 e1 i1 => ?_
  obtain ⟨n, rfl, h1, h2, q⟩ := q
  cases i1
  refine ⟨n, rfl, h1, h2, k _ _ ow1 H1 q st1 e1 fun F' H f1 f2 i => ⟨fun l => ?_, fun d hd => ?_⟩⟩
  · rw [rngD_len] at l
    exact l
  · obtain ⟨hi, rfl⟩ := rngD_get hd
    refine ⟨hi, fun x H' y => ?_⟩
    obtain ⟨rfl, rfl⟩ := y
    refine ⟨Evl.Ex.refl _, .inl ?_⟩
    rw [Int.mul_one]
    exact .int _
/-- range(a, b, -1) -/
theorem wi_down {a b c : Expr} {pp pos : Pos} (hg : Gl X "range") (hm : X.mg "range" = none) (h : WA X [a, b, c] S fun ds => ∃ i j : Int, ds = [.int i, .int j, .int (-1)] ∧ (-(2 ^ 62) ≤ i ∧ i < 2 ^ 62 ∧ -(2 ^ 62) ≤ j ∧ j < 2 ^ 62) ∧ Q (rngD i (-1) (i - j).toNat))
    (hs : starEach [a, b, c] X.env = (false, eval a X.env) :: starEach [b, c] X.env := by rfl) (hpl : (backTo pos (starEach [b, c] X.env)).any (·.1) = false := by rfl) : WI X tg (.Call (.Name "range" pp) [a, b, c] [] pos) S p Q := fun ow H σ R st k => by
  refine PI.we (pi_range3 hg hm pa_W hs hpl) ?_
  refine h ow H σ _ st fun ds vs ow1 H1 q st1 e1 i1 => ?_
  obtain ⟨i, j, rfl, ⟨h1, h2, h3, h4⟩, q⟩ := q
  have ev : vs = [.int i, .int j, .int (-1)] := IsA.ints (ns := [i, j, -1]) i1
  subst ev
  refine ⟨i, j, -1, _, rfl, RgC.neg h1 h2 h3 h4, k _ _ ow1 H1 q st1 e1 fun F' H f1 f2 t => ⟨fun l => ?_, fun d hd => ?_⟩⟩
  · rw [rngD_len] at l
    exact l
  · obtain ⟨hi, rfl⟩ := rngD_get hd
    refine ⟨hi, fun x H' y => ?_⟩
    obtain ⟨rfl, rfl⟩ := y
    exact ⟨Evl.Ex.refl _, .inl (.int _)⟩
/-- zip of two tuples -/
theorem wi_zipT {e e2 : Expr} {pp pos tpos : Pos} {elts : List Expr} {kk : Nat} (hg : Gl X "zip") (hm : X.mg "zip" = none) (h : WA X [e, e2] S fun ds => ∃ xs ys, ds = [.tuple xs, .tuple ys] ∧ Q ((xs.zip ys).map fun p => .tuple [p.1, p.2]))
    (hs : starEach [e, e2] X.env = (false, eval e X.env) :: starEach [e2] X.env := by rfl) (hpl : (backTo pos (starEach [e2] X.env)).any (·.1) = false := by rfl) : WI X (.Tuple elts kk tpos) (.Call (.Name "zip" pp) [e, e2] [] pos) S false Q := fun ow H σ R st k => by
  refine PI.we (RZ.pi_zipA hg hm pa_W hs hpl) ?_
  refine h ow H σ _ st fun ds vs ow1 H1 q st1 e1 i1 => ?_
  obtain ⟨xs, ys, rfl, q⟩ := q
  cases i1 with
  | cons h1 t1 =>
    cases t1 with
    | cons h2 t2 =>
      cases t2
      cases h1 with
      | @tup a us _ p1 a1 =>
        cases h2 with
        | @tup b ws _ p2 a2 =>
          refine ⟨_, _, us, ws, rfl, .inr ⟨(p1.mono pt_le).sq, (p2.mono pt_le).sq, k _ _ ow1 H1 q st1 e1 fun F' H f1 f2 i => ?_⟩⟩
          have s1 : SqT X.K H a us := (p1.mono (f1.trans f2)).sq
          have s2 : SqT X.K H b ws := (p2.mono (f1.trans f2)).sq
          have l1 := a1.length
          have l2 := a2.length
          refine ⟨fun l => ⟨us, ws, s1, s2, ?_⟩, fun d hd => ?_⟩
          · rw [List.length_map, List.length_zip] at l
            omega
          · rw [List.getElem?_map] at hd
            cases ez : (xs.zip ys)[i]? with
            | none =>
              rw [ez] at hd
              cases hd
            | some pr =>
              obtain ⟨x, y⟩ := pr
              rw [ez] at hd
              cases hd
              obtain ⟨g1, g2⟩ := List.getElem?_zip_eq_some.mp ez
              obtain ⟨v1, b1, c1⟩ := a1.get g1
              obtain ⟨v2, b2, c2⟩ := a2.get g2
              refine ⟨⟨us, ws, v1, v2, s1, s2, b1, b2⟩, fun z H' hy => ?_⟩
              obtain ⟨T, x', y', rfl, hT, rfl, q1, q2⟩ := hy
              have z1 := q1 us s1
              have z2 := q2 ws s2
              rw [b1] at z1
              rw [b2] at z2
              cases z1
              cases z2
              refine ⟨Evl.Ex.new hT, .inr ⟨rfl, T, _, _, rfl, rfl, upd_same, ?_⟩⟩
              have f3 := f1.trans (cut_le f2 (Evl.Ex.new (o := .tup [v1, v2]) hT))
              exact .cons (c1.mono f3) (.cons (c2.mono f3) .nil)
/-- enumerate of a list -/
theorem wi_enumL {e : Expr} {pp pos tpos : Pos} {elts : List Expr} {kk : Nat} (hg : Gl X "enumerate") (hm : X.mg "enumerate" = none) (h : W X e S fun d => ∃ xs, d = .list xs ∧ Q (xs.zipIdx.map fun p => .tuple [.int (p.2 : Int), p.1]))
    (hs : starEach [e] X.env = [(false, eval e X.env)] := by rfl) : WI X (.Tuple elts kk tpos) (.Call (.Name "enumerate" pp) [e] [] pos) S false Q := fun ow H σ R st k => by
  refine PI.we (pi_enum hg hm (pa_cons pe_W pa_nil hs) hs) ?_
  refine h ow H σ _ st fun d v ow1 H1 q st1 e1 i1 => ?_
  obtain ⟨xs, rfl, q⟩ := q
  cases i1 with
  | @lst a us _ p1 a1 =>
    refine ⟨a, us, rfl, SqL.of (pt_le _ _ p1), k _ _ ow1 H1 q st1 e1 fun F' H f1 f2 i => ?_⟩
    have s1 : SqL X.K H a us := SqL.of (f2 _ _ (f1 _ _ p1))
    have l1 := a1.length
    refine ⟨fun l => ⟨us, s1, ?_⟩, fun d hd => ?_⟩
    · rw [List.length_map, List.length_zipIdx] at l
      omega
    · rw [List.getElem?_map] at hd
      cases ez : xs.zipIdx[i]? with
      | none =>
        rw [ez] at hd
        cases hd
      | some pr =>
        obtain ⟨x, j⟩ := pr
        rw [ez] at hd
        cases hd
        rw [List.getElem?_zipIdx] at ez
        cases ex : xs[i]? with
        | none =>
          rw [ex] at ez
          cases ez
        | some x' =>
          rw [ex] at ez
          simp only [Option.map_some, Option.some.injEq, Prod.mk.injEq] at ez
          obtain ⟨rfl, rfl⟩ := ez
          obtain ⟨v1, b1, c1⟩ := a1.get ex
          refine ⟨⟨us, v1, s1, b1⟩, fun z H' hy => ?_⟩
          obtain ⟨T, x'', rfl, hT, rfl, q1⟩ := hy
          have z1 := q1 us s1
          rw [b1] at z1
          cases z1
          refine ⟨Evl.Ex.new hT, .inr ⟨rfl, T, _, _, rfl, rfl, upd_same, ?_⟩⟩
          have f3 := f1.trans (cut_le f2 (Evl.Ex.new (o := .tup [.int (i : Nat), v1]) hT))
          refine .cons ?_ (.cons (c1.mono f3) .nil)
          show Is X.K _ (.int ((i : Nat) : Int)) (.int (((0 + i : Nat)) : Int))
          rw [Nat.zero_add]
          exact .int _

/-! ### targets -/
def gT (K : PySem.W.Frag) (m : Bool) (js : List Nat) : TG := match m with
  | true => gTup K js.length (gNames js)
  | false => gName (js.headD 0)
/-- what an item does to the store -/
def inT {K : PySem.W.Frag} (m : Bool) (js : List Nat) (d : D) (S S' : Sto K) : Prop := match m with
  | true => ∃ ds, d = .tuple ds ∧ ds.length = js.length ∧ S' = setAll js (ds.map .dat) S
  | false => S' = S.set (js.headD 0) (.dat d)
theorem inT_len {K : PySem.W.Frag} {m : Bool} {js : List Nat} {d : D} {S S' : Sto K} (h : inT m js d S S') : S'.length = S.length := by
  cases m with
  | true =>
    obtain ⟨ds, _, _, rfl⟩ := h
    exact setAll_len
  | false =>
    have e : S' = S.set (js.headD 0) (.dat d) := h
    rw [e, List.length_set]
theorem target_go {K : PySem.W.Frag} {m p : Bool} {js : List Nat} {d : D} {S S' : Sto K} {ow : Addr → Nat} {H : Hp} {σ : L2.St} {x : V} {Q : L2.St → Hp → Prop} (hm : m = true ∨ p = true) (h : inT m js d S S') (st : Std K ow H σ S) (y : IsY K p (fz ow H) H x d) (hj : ∀ j ∈ js, j < S.length)
    (hn : js ≠ []) (q : ∀ σ', Std K ow H σ' S' → (m = false → σ' = σ.set (js.headD 0) (some x)) → (m = true → ∃ vs, vs.length = js.length ∧ σ' = setV js vs σ) → Q σ' H) : gT K m js x σ H Q := by
  cases m with
  | true =>
    obtain ⟨ds, rfl, hl, rfl⟩ := h
    rcases y with y | ⟨_, T, vs, ds', e, rfl, hT, a⟩
    · cases y with
      | tup pp a =>
        have l := a.length
        exact ⟨_, _, rfl, (pp.mono pt_le).sq, by rw [l]; exact hl, gNames_go (by rw [l]; exact hl) (q _ (st.setAll a hj) (fun z => nomatch z) fun _ => ⟨_, by rw [l]; exact hl, rfl⟩)⟩
    · cases e
      have l := a.length
      exact ⟨_, _, rfl, SqT.of hT, by rw [l]; exact hl, gNames_go (by rw [l]; exact hl) (q _ (st.setAll a hj) (fun z => nomatch z) fun _ => ⟨_, by rw [l]; exact hl, rfl⟩)⟩
  | false =>
    have e : S' = S.set (js.headD 0) (.dat d) := h
    subst e
    have hp : p = true := by
      rcases hm with z | z
      · cases z
      · exact z
    subst hp
    rcases y with y | ⟨z, _⟩
    · have hj0 : js.headD 0 < S.length := by
        cases js with
        | nil => exact absurd rfl hn
        | cons j r => exact hj j List.mem_cons_self
      exact q _ (st.set hj0 y) (fun _ => rfl) fun z => nomatch z
    · cases z

/-! ### for -/
theorem ws_for {D0 : De X.K} {m : Bool} (js : List Nat) {body : List Stmt} {pos : Pos} (hp : PassesOwn (model X.prog X.w) X.A X.env X.xe) (hc : X.calm = true) (hm : m = true ∨ p = true) (hg : PG X tg (gT X.K m js)) (hn : js ≠ []) (hj : ∀ j ∈ js, j < S.length)
    (h : WI X tg iter S p fun ds => ∃ Pv : Nat → Sto X.K → Prop, Pv 0 S ∧ (∀ (i : Nat) (d : D) (S' : Sto X.K), ds[i]? = some d → S'.length = S.length → Pv i S' → ∃ S2, inT m js d S' S2 ∧ WSs X body S2 { D0 with nx := Pv (i + 1), ct := Pv (i + 1), bk := D0.nx }) ∧ ∀ S', S'.length = S.length → Pv ds.length S' → D0.nx S') (hsf : ∀ x, foldedSetIterable iter X.env x = pure x := by intro _; rfl) :
    WS X (.For tg iter body [] pos) S D0 := fun ow H σ E st mt => by
  refine PS.we (ps_for hp hc pi_W hg pss_W hsf) ?_
  refine h ow H σ _ st fun ds J ow1 H1 q st1 e1 hJ => ?_
  obtain ⟨Pv, h0, hs, hd⟩ := q
  refine ⟨fun i k σ' H' => k = ds.length - i ∧ i ≤ ds.length ∧ ∃ (S' : Sto X.K) (ow' : Addr → Nat), Pv i S' ∧ S'.length = S.length ∧ Std X.K ow' H' σ' S' ∧ Stp S.length ow1 H1 ow' H', ⟨_, rfl, Nat.zero_le _, S, ow1, h0, rfl, st1, Stp.refl _ _ _⟩, ?_⟩
  rintro i k σ' H' ⟨rfl, hi, S', ow', hP, hl, st', sp⟩
  have J' := hJ (fz ow' H') H' sp.fz pt_le i
  by_cases hlt : i < ds.length
  · obtain ⟨d, hdd⟩ : ∃ d, ds[i]? = some d := ⟨ds[i], List.getElem?_eq_getElem hlt⟩
    obtain ⟨go, yl⟩ := J'.2 d hdd
    refine .inr ⟨go, fun σ2 H2 => ∃ (S2 : Sto X.K) (ow2 : Addr → Nat), Pv (i + 1) S2 ∧ S2.length = S.length ∧ Std X.K ow2 H2 σ2 S2 ∧ Stp S.length ow1 H1 ow2 H2, fun σ2 H2 ⟨S2, ow2, a1, a2, a3, a4⟩ => ⟨ds.length - (i + 1), by omega, rfl, hlt, S2, ow2, a1, a2, a3, a4⟩, fun x H2 y => ?_⟩
    obtain ⟨ex, yy⟩ := yl x H2 y
    obtain ⟨S2, it, hb⟩ := hs i d S' hdd hl hP
    have st2 := st'.ext ex
    rw [← fz_nw] at yy
    have sp2 : Stp S.length ow1 H1 (nw ow' H') H2 := sp.trans (.ext ex)
    refine target_go hm it st2 yy (by rw [hl]; exact hj) hn fun σ3 st3 _ _ => ?_
    have l3 : S2.length = S.length := (inT_len it).trans hl
    have nxm : Mt X.K S2.length (nw ow' H') H2 (Pv (i + 1)) (fun σ2 H2 => ∃ (S2 : Sto X.K) (ow2 : Addr → Nat), Pv (i + 1) S2 ∧ S2.length = S.length ∧ Std X.K ow2 H2 σ2 S2 ∧ Stp S.length ow1 H1 ow2 H2) := fun S4 ow4 H4 σ4 p4 l4 st4 sp4 =>
      ⟨S4, ow4, p4, l4.trans l3, st4, sp2.trans (by rw [← l3]; exact sp4)⟩
    have mt2 : Meets X.K S2.length (nw ow' H') H2 D0 E := by rw [l3]; exact mt.step (e1.trans sp2)
    exact hb (nw ow' H') H2 σ3 _ st3 ⟨nxm, mt2.rt, mt2.nx, nxm⟩
  · have e : i = ds.length := by omega
    subst e
    exact .inl ⟨J'.1 (Nat.le_refl _), mt.nx S' ow' H' σ' (hd S' hl hP) hl st' (e1.trans sp)⟩

/-! ### while -/
theorem ws_while {D0 : De X.K} {c : Expr} {body : List Stmt} {pos : Pos} (hp : PassesOwn (model X.prog X.w) X.A X.env X.xe) (Wv : Nat → Sto X.K → Prop) (m0 : Nat) (h0 : Wv m0 S)
    (h : ∀ (k : Nat) (S' : Sto X.K), S'.length = S.length → Wv k S' → WT X c S' fun t => if t = true then WSs X body S' { D0 with nx := fun S2 => ∃ k', k' < k ∧ Wv k' S2, ct := fun S2 => ∃ k', k' < k ∧ Wv k' S2, bk := D0.nx } else D0.nx S') :
    WS X (.While c body [] pos) S D0 := fun ow H σ E st mt => by
  refine PS.we (ps_while hp pt_W pss_W) ?_
  refine ⟨fun k σ' H' => ∃ (S' : Sto X.K) (ow' : Addr → Nat), Wv k S' ∧ S'.length = S.length ∧ Std X.K ow' H' σ' S' ∧ Stp S.length ow H ow' H', ⟨m0, S, ow, h0, rfl, st, Stp.refl _ _ _⟩, ?_⟩
  rintro k σ' H' ⟨S', ow', hW, hl, st', sp⟩
  refine h k S' hl hW ow' H' σ' _ st' fun t ow2 H2 q st2 e2 => ?_
  rw [hl] at e2
  have sp2 := sp.trans e2
  cases t with
  | true =>
    rw [if_pos rfl] at q ⊢
    refine ⟨fun σ3 H3 => ∃ (k' : Nat), k' < k ∧ ∃ (S3 : Sto X.K) (ow3 : Addr → Nat), Wv k' S3 ∧ S3.length = S.length ∧ Std X.K ow3 H3 σ3 S3 ∧ Stp S.length ow H ow3 H3, fun σ3 H3 ⟨k', a, b⟩ => ⟨k', a, b⟩, ?_⟩
    have nxm : Mt X.K S'.length ow2 H2 (fun S2 => ∃ k', k' < k ∧ Wv k' S2) (fun σ3 H3 => ∃ (k' : Nat), k' < k ∧ ∃ (S3 : Sto X.K) (ow3 : Addr → Nat), Wv k' S3 ∧ S3.length = S.length ∧ Std X.K ow3 H3 σ3 S3 ∧ Stp S.length ow H ow3 H3) := fun S4 ow4 H4 σ4 ⟨k', kk, p4⟩ l4 st4 sp4 =>
      ⟨k', kk, S4, ow4, p4, l4.trans hl, st4, sp2.trans (by rw [← hl]; exact sp4)⟩
    have mt2 : Meets X.K S'.length ow2 H2 D0 E := by rw [hl]; exact mt.step sp2
    exact q ow2 H2 σ' _ st2 ⟨nxm, mt2.rt, mt2.nx, nxm⟩
  | false =>
    rw [if_neg Bool.false_ne_true] at q ⊢
    exact mt.nx S' ow2 H2 σ' q hl st2 sp2
end
end K3
end

section
set_option autoImplicit true
set_option Elab.async false
set_option linter.all false
set_option maxRecDepth 100000
set_option maxHeartbeats 1000000
/-! Comprehensions over data. -/
namespace K3
open PySem PySem.Spec PyProof.Rows L2
theorem wipe_get (σ : L2.St) (i : Nat) : ∀ vs : List Nat, (wipe σ vs)[i]? = if i ∈ vs then (if i < σ.length then some none else none) else σ[i]?
  | [] => by simp [wipe]
  | v :: vs => by
    unfold wipe
    by_cases e : v = i
    · subst e
      rw [if_pos List.mem_cons_self]
      by_cases h : v < σ.length
      · rw [if_pos h, List.getElem?_set_self (by rw [wipe_length]; exact h)]
      · rw [if_neg h, List.getElem?_eq_none_iff]
        rw [List.length_set, wipe_length]
        omega
    · rw [List.getElem?_set_ne e, wipe_get σ i vs]
      by_cases h : i ∈ vs
      · rw [if_pos h, if_pos (List.mem_cons_of_mem _ h)]
      · rw [if_neg h, if_neg (by simp only [List.mem_cons, not_or]; exact ⟨fun q => e q.symm, h⟩)]
theorem wipe_set {σ τ : L2.St} {vs : List Nat} (hl : τ.length = σ.length) (h : ∀ i, i ∉ vs → τ[i]? = (wipe σ vs)[i]?) : wipe τ vs = wipe σ vs := by
  apply List.ext_getElem?
  intro i
  rw [wipe_get τ i vs]
  by_cases m : i ∈ vs
  · rw [if_pos m, wipe_get, if_pos m, hl]
  · rw [if_neg m, h i m]
theorem setV_get {i : Nat} : ∀ {js : List Nat} {us : List V} {σ : L2.St}, i ∉ js → (setV js us σ)[i]? = σ[i]?
  | [], _, _, _ => rfl
  | _ :: _, [], _, _ => rfl
  | j :: js, u :: us, σ, h => by
    unfold setV
    rw [setV_get (fun q => h (List.mem_cons_of_mem _ q)), List.getElem?_set_ne (fun e => h (by rw [e]; exact List.mem_cons_self))]
def wipeS {K : PySem.W.Frag} (S : Sto K) : List Nat → Sto K
  | [] => S
  | v :: vs => (wipeS S vs).set v .no
theorem wipeS_len {K : PySem.W.Frag} {S : Sto K} : ∀ {vs : List Nat}, (wipeS S vs).length = S.length
  | [] => rfl
  | v :: vs => by
    unfold wipeS
    rw [List.length_set, wipeS_len]
theorem Std.wipe {K : PySem.W.Frag} {ow : Addr → Nat} {H : Hp} {σ : L2.St} {S : Sto K} (st : Std K ow H σ S) : ∀ vs : List Nat, Std K ow H (L2.wipe σ vs) (wipeS S vs)
  | [] => st
  | v :: vs => by
    have ih := Std.wipe st vs
    refine ⟨by unfold wipeS L2.wipe; rw [List.length_set, List.length_set]; exact ih.len, fun i s h => ?_⟩
    unfold wipeS at h
    unfold L2.wipe
    by_cases e : v = i
    · subst e
      by_cases hv : v < (wipeS S vs).length
      · rw [List.getElem?_set_self hv] at h
        cases h
        exact trivial
      · rw [List.getElem?_eq_none_iff.mpr (by rw [List.length_set]; omega)] at h
        cases h
    · rw [List.getElem?_set_ne e] at h ⊢
      exact ih.sl i s h
section
variable (X : Cx)
structure WTsr (ifs : List Expr) (σ : L2.St) (H : Hp) (Q : Bool → Hp → Prop) : Prop where
  r : ∀ (pins : List (Addr × Obj)) (s : Shared), Inv X pins σ H s →
  wpAny (model X.prog X.w) X.A (forIn ifs true fun c r => if r = true then do let ok ← isTrue c X.env (eval c X.env); pure (ForInStep.yield ok) else pure (ForInStep.yield r)) (TP X pins σ Q) X.xe s
variable {X}
theorem pts_W {ifs : List Expr} : PTs X ifs (WTsr X ifs) := ⟨fun pins s _ _ _ I h => h.r pins s I⟩
theorem PTs.we {ifs : List Expr} {t : TT} {σ : L2.St} {H : Hp} {Q : Bool → Hp → Prop} (h : PTs X ifs t) (q : t σ H Q) : WTsr X ifs σ H Q := ⟨fun pins s I => h.run pins s σ H Q I q⟩
end
def WTs (X : Cx) (ifs : List Expr) (S : Sto X.K) (Q : Bool → Prop) : Prop := ∀ (ow : Addr → Nat) (H : Hp) (σ : L2.St) (Q' : Bool → Hp → Prop), Std X.K ow H σ S → Kt X.K S σ ow H Q Q' → WTsr X ifs σ H Q'
/-- the context of a comprehension's block -/
abbrev Bk (X : Cx) (scope : Scope) (s : Shared) (H : Hp) (C : Addr) (cl : List (Str × Addr)) (fp : List Addr) : Cx := X.blk s H scope (compEnvC scope cl C X.env) fp
section
variable {X : Cx} {S : Sto X.K} {c elt tg iter : Expr} {ifs : List Expr} {p : Bool}
theorem wts_nil {Q : Bool → Prop} (q : Q true) : WTs X [] S Q := fun ow H σ Q' st k => PTs.we pts_nil (k true ow H q st (Stp.refl _ _ _))
theorem wts_one {Q : Bool → Prop} (h : WT X c S Q) : WTs X [c] S Q := fun ow H σ Q' st k => PTs.we (pts_one pt_W) (h ow H σ Q' st k)
/-- an object in zone n + 1 is changed -/
theorem Std.updZ {K : PySem.W.Frag} {ow : Addr → Nat} {H : Hp} {σ : L2.St} {S : Sto K} {a : Addr} {o : HO} (st : Std K ow H σ S) (ha : ow a = S.length + 1) : Std K ow (upd H a o) σ S := by
  have pe : ∀ m, m ≠ S.length + 1 → pt ow m (upd H a o) = pt ow m H := fun m hm => by
    funext b
    unfold pt
    by_cases e : ow b = m
    · rw [if_pos e, if_pos e, upd_ne (fun q => hm (by rw [← e, q, ha]))]
    · rw [if_neg e, if_neg e]
  refine ⟨st.len, fun i s h => ?_⟩
  have hi : i < S.length := (List.getElem?_eq_some_iff.mp h).1
  rw [pe (i + 1) (by omega)]
  show s.ok (pt ow 0 (upd H a o)) _ _
  rw [pe 0 (by omega)]
  exact st.sl i s h
theorem fz_updZ {n : Nat} {ow : Addr → Nat} {H : Hp} {a : Addr} {o : HO} (ha : ow a = n + 1) : fz ow (upd H a o) = fz ow H := by
  funext b
  unfold fz pt
  by_cases e : ow b = 0
  · rw [if_pos e, if_pos e, upd_ne (fun q => by rw [q, ha] at e; omega)]
  · rw [if_neg e, if_neg e]
theorem Stp.updZ {n : Nat} {ow ow' : Addr → Nat} {H H' : Hp} {a : Addr} {o : HO} (s : Stp n ow H ow' H') (h : H a = none) (ha : ow' a = n + 1) : Stp n ow H ow' (upd H' a o) := by
  refine ⟨by rw [fz_updZ ha]; exact s.fz, fun m hm b u q => ?_, fun b q => ?_⟩
  · obtain ⟨q1, q2⟩ := pt_some (s.fr m hm b u q)
    obtain ⟨q3, _⟩ := pt_some q
    refine pt_of q2 ?_
    rw [upd_ne (fun e => by rw [e, h] at q3; cases q3)]
    exact q1
  · by_cases e : b = a
    · rw [e]
      exact h
    · rw [upd_ne e] at q
      exact s.dm b q
theorem wipeS_get {K : PySem.W.Frag} {S : Sto K} {i : Nat} : ∀ {vs : List Nat}, i ∉ vs → (wipeS S vs)[i]? = S[i]?
  | [], _ => rfl
  | v :: vs, h => by
    unfold wipeS
    rw [List.getElem?_set_ne (fun e => h (by rw [e]; exact List.mem_cons_self)), wipeS_get (fun q => h (List.mem_cons_of_mem _ q))]
theorem wipeS_no {K : PySem.W.Frag} {S : Sto K} {i : Nat} {s : Sv K} : ∀ {vs : List Nat}, i ∈ vs → (wipeS S vs)[i]? = some s → s = .no
  | [], h, _ => by cases h
  | v :: vs, h, q => by
    unfold wipeS at q
    by_cases e : v = i
    · subst e
      by_cases hv : v < (wipeS S vs).length
      · rw [List.getElem?_set_self hv] at q
        exact (Option.some.inj q).symm
      · rw [List.getElem?_eq_none_iff.mpr (by rw [List.length_set]; omega)] at q
        cases q
    · rw [List.getElem?_set_ne e] at q
      rcases List.mem_cons.mp h with r | r
      · exact absurd r.symm e
      · exact wipeS_no r q
theorem setAll_get {α : Type} {i : Nat} : ∀ {js : List Nat} {ss S : List α}, i ∉ js → (setAll js ss S)[i]? = S[i]?
  | [], _, _, _ => rfl
  | _ :: _, [], _, _ => rfl
  | j :: js, u :: us, S, h => by
    unfold setAll
    rw [setAll_get (fun q => h (List.mem_cons_of_mem _ q)), List.getElem?_set_ne (fun e => h (by rw [e]; exact List.mem_cons_self))]
theorem inT_get {K : PySem.W.Frag} {m : Bool} {js : List Nat} {d : D} {S S' : Sto K} {i : Nat} (h : inT m js d S S') (hn : js ≠ []) (hi : i ∉ js) : S'[i]? = S[i]? := by
  cases m with
  | true =>
    obtain ⟨ds, _, _, rfl⟩ := h
    exact setAll_get hi
  | false =>
    have e : S' = S.set (js.headD 0) (.dat d) := h
    rw [e, List.getElem?_set_ne]
    intro q
    cases js with
    | nil => exact hn rfl
    | cons j r =>
      have e' : j = i := q
      exact hi (e' ▸ List.mem_cons_self)
/-- names that a comprehension may take: they hold nothing of their own -/
def Idle {K : PySem.W.Frag} (S : Sto K) (vs : List Nat) : Prop := ∀ j ∈ vs, S[j]? = some .no ∨ ∃ d, S[j]? = some (.dat d)
theorem Std.unwipe {K : PySem.W.Frag} {ow ow' : Addr → Nat} {H H' : Hp} {σ : L2.St} {S : Sto K} {vs : List Nat} (st : Std K ow H σ S) (hv : Idle S vs) (sp : Stp S.length ow H ow' H') (st' : Std K ow' H' (L2.wipe σ vs) (wipeS S vs)) : Std K ow' H' σ S := by
  refine ⟨st.len, fun i s h => ?_⟩
  by_cases m : i ∈ vs
  · rcases hv i m with q | ⟨d, q⟩
    · rw [h] at q
      cases q
      exact trivial
    · have z := st.sl i s h
      rw [h] at q
      cases q
      obtain ⟨u, e, iu⟩ := z
      exact ⟨u, e, iu.mono sp.fz⟩
  · have z := st'.sl i s (by rw [wipeS_get m]; exact h)
    rw [wipe_get, if_neg m] at z
    exact z
/-- what a turn of a comprehension asks -/
def LcT (X : Cx) (scope : Scope) (elt : Expr) (ifs : List Expr) (S2 : Sto X.K) (acc : List D) (Py Pn : List D → Prop) : Prop := ∀ (s : Shared) (H : Hp) (C : Addr) (cl : List (Str × Addr)) (fp : List Addr),
  WTs (Bk X scope s H C cl fp) ifs S2 fun b => if b = true then ∀ (s : Shared) (H : Hp) (C : Addr) (cl : List (Str × Addr)) (fp : List Addr), W (Bk X scope s H C cl fp) elt S2 (fun y => Py (acc ++ [y])) else Pn acc
def LcQ (X : Cx) (scope : Scope) (elt : Expr) (ifs : List Expr) (S : Sto X.K) (m : Bool) (js vs : List Nat) (ds : List D) (Q : List D → Prop) : Prop := ds.length < sizeLine ∧ ∃ P : Nat → List D → Prop, P 0 [] ∧
  (∀ (i : Nat) (d : D) (acc : List D), ds[i]? = some d → acc.length ≤ i → P i acc → ∃ S2 : Sto X.K, inT m js d (wipeS S vs) S2 ∧ LcT X scope elt ifs S2 acc (P (i + 1)) (P (i + 1))) ∧ ∀ acc, acc.length ≤ ds.length → P ds.length acc → Q acc
/-- the reading of a comprehension, from data -/
theorem lc_go {scope : Scope} {m : Bool} {js vs : List Nat} {ds : List K3.D} {J : It} {ow : Addr → Nat} {H : Hp} {σ : L2.St} {Qd : List K3.D → Prop} {Q' : VK} {A : Addr} (hm : m = true ∨ p = true) (hn : js ≠ []) (hj : ∀ j ∈ js, j < S.length) (hv : ∀ j ∈ js, j ∈ vs) (hid : Idle S vs)
    (st : Std X.K ow H σ S) (hJ : ItD X.K J (fz ow H) ds p) (q : LcQ X scope elt ifs S m js vs ds Qd) (hA : H A = none)
    (k : ∀ (acc : List K3.D) (us : List V) (ow' : Addr → Nat) (H' : Hp), Qd acc → Std X.K ow' H' σ S → Stp S.length ow H ow' H' → H' A = some (.lst us) → ow' A = S.length + 1 → IsA X.K (fz ow' H') us acc → Q' (.ref A) H') :
    ∃ W : Nat → Nat → Hp → Prop, (∃ m, W 0 m (upd H A (.lst []))) ∧ ∀ i mm H, W i mm H →
      (J.stop i H ∧ Q' (.ref A) H) ∨ (J.go i H ∧ ∃ Nx : Hp → Prop, (∀ H', Nx H' → ∃ m', m' < mm ∧ W (i + 1) m' H') ∧ ∀ x H', J.yld i H x H' → gT X.K m js x (L2.wipe σ vs) H' fun σ2 H2 => L2.wipe σ2 vs = L2.wipe σ vs ∧
        (fun (σ : L2.St) (H : Hp) (Q : Bool → Hp → Prop) => ∀ (s : Shared) (H0 : Hp) (C : Addr) (cl : List (Str × Addr)) (fp : List Addr), WTsr (Bk X scope s H0 C cl fp) ifs σ H Q) σ2 H2 fun b H3 =>
        if b = true then (fun (σ : L2.St) (H : Hp) (Q : VK) => ∀ (s : Shared) (H0 : Hp) (C : Addr) (cl : List (Str × Addr)) (fp : List Addr), WE (Bk X scope s H0 C cl fp) elt σ H Q) σ2 H3 fun y H4 => ∃ acc, H4 A = some (.lst acc) ∧ acc.length < sizeLine ∧ Nx (upd H4 A (.lst (acc ++ [y]))) else Nx H3) := by
  obtain ⟨hz, P, h0, hs, hd⟩ := q
  let Wv : Nat → Hp → Prop := fun i H' => ∃ (acc : List K3.D) (us : List V) (ow' : Addr → Nat), acc.length ≤ i ∧ P i acc ∧ Stp S.length ow H ow' H' ∧ Std X.K ow' H' (L2.wipe σ vs) (wipeS S vs) ∧ H' A = some (.lst us) ∧ ow' A = S.length + 1 ∧ IsA X.K (fz ow' H') us acc
  have w0 : Wv 0 (upd H A (.lst [])) := by
    have ex : Ex H (upd H A (.lst [])) := Evl.Ex.new hA
    refine ⟨[], [], zw S.length ow H, Nat.le_refl _, h0, .zone ex, ?_, upd_same, zw_new hA, .nil⟩
    exact (st.zone ex).wipe vs
  refine ⟨fun i mm H' => mm = ds.length - i ∧ i ≤ ds.length ∧ Wv i H', ⟨_, rfl, Nat.zero_le _, w0⟩, ?_⟩
  rintro i mm H' ⟨rfl, hi, acc, us, ow', hla, hP, sp, st', hA', hoA, ia⟩
  have J' := hJ (fz ow' H') H' sp.fz pt_le i
  by_cases hlt : i < ds.length
  · obtain ⟨d, hdd⟩ : ∃ d, ds[i]? = some d := ⟨ds[i], List.getElem?_eq_getElem hlt⟩
    obtain ⟨go, yl⟩ := J'.2 d hdd
    refine .inr ⟨go, Wv (i + 1), fun H2 w => ⟨ds.length - (i + 1), by omega, rfl, hlt, w⟩, fun x H2 y => ?_⟩
    obtain ⟨ex, yy⟩ := yl x H2 y
    obtain ⟨S2, it, hb⟩ := hs i d acc hdd hla hP
    rw [← fz_nw] at yy
    have st2 : Std X.K (nw ow' H') H2 (L2.wipe σ vs) (wipeS S vs) := st'.ext ex
    have sp2 : Stp S.length ow H (nw ow' H') H2 := sp.trans (.ext ex)
    have hA2 : H2 A = some (.lst us) := ex _ _ hA'
    have hoA2 : nw ow' H' A = S.length + 1 := (nw_old hA').trans hoA
    have ia2 : IsA X.K (fz (nw ow' H') H2) us acc := ia.mono (fz_le ex)
    refine target_go hm it st2 yy (by rw [wipeS_len]; exact hj) hn fun σ2 st3 g1 g2 => ?_
    have sl : σ2.length = σ.length := by
      cases m with
      | true =>
        obtain ⟨us', _, rfl⟩ := g2 rfl
        rw [setV_len, wipe_length]
      | false =>
        rw [g1 rfl, List.length_set, wipe_length]
    have sg : ∀ j, j ∉ vs → σ2[j]? = (L2.wipe σ vs)[j]? := fun j hjv => by
      cases m with
      | true =>
        obtain ⟨us', _, rfl⟩ := g2 rfl
        rw [setV_get (fun e => hjv (hv j e))]
      | false =>
        rw [g1 rfl, List.getElem?_set_ne]
        intro e
        cases js with
        | nil => exact hn rfl
        | cons j0 r =>
          have e' : j0 = j := e
          exact hjv (e' ▸ hv j0 List.mem_cons_self)
    refine ⟨wipe_set sl sg, fun s H0 C cl fp => ?_⟩
    · have l2 : S2.length = S.length := (inT_len it).trans wipeS_len
      have back : ∀ {ow3 : Addr → Nat} {H3 : Hp}, Stp S2.length (nw ow' H') H2 ow3 H3 → Std X.K ow3 H3 σ2 S2 → Std X.K ow3 H3 (L2.wipe σ vs) (wipeS S vs) := fun {ow3 H3} sp3 st3' => by
        refine ⟨by rw [wipeS_len, wipe_length]; exact st.len, fun i' s' h' => ?_⟩
        by_cases mi : i' ∈ vs
        · rw [wipeS_no mi h']
          exact trivial
        · have q := st3'.sl i' s' (by rw [inT_get it hn (fun e => mi (hv i' e))]; exact h')
          rw [sg i' mi] at q
          exact q
      refine hb s H0 C cl fp (nw ow' H') H2 σ2 _ st3 fun b ow3 H3 qb st4 sp4 => ?_
      have sp4' : Stp S.length (nw ow' H') H2 ow3 H3 := by rw [← l2]; exact sp4
      obtain ⟨a1, a2⟩ := sp4'.le hA2 (.inr (by omega))
      cases b with
      | false =>
        rw [if_neg Bool.false_ne_true] at qb ⊢
        exact ⟨acc, us, ow3, by omega, qb, sp2.trans sp4', back sp4 st4, a1, a2.trans hoA2, ia2.mono sp4'.fz⟩
      | true =>
        rw [if_pos rfl] at qb ⊢
        intro s' H0' C' cl' fp'
        refine qb s' H0' C' cl' fp' ow3 H3 σ2 _ st4 fun d' v' ow4 H4 qd st5 sp5 i5 => ?_
        have sp5' : Stp S.length ow3 H3 ow4 H4 := by rw [← l2]; exact sp5
        obtain ⟨b1, b2⟩ := sp5'.le a1 (.inr (by rw [a2, hoA2]; omega))
        have hoA4 : ow4 A = S.length + 1 := b2.trans (a2.trans hoA2)
        have lu : us.length = acc.length := ia.length
        refine ⟨us, b1, by rw [lu]; omega, acc ++ [d'], us ++ [v'], ow4, by rw [List.length_append, List.length_singleton]; omega, qd, ?_, ?_, upd_same, hoA4, ?_⟩
        · exact (sp2.trans (sp4'.trans sp5')).updZ hA hoA4
        · refine Std.updZ (back (sp4.trans sp5) st5) ?_
          rw [wipeS_len]
          exact hoA4
        · rw [fz_updZ hoA4]
          exact (ia2.mono (sp4'.trans sp5').fz).append (.cons i5 .nil)
  · have e : i = ds.length := by omega
    subst e
    exact .inl ⟨J'.1 (Nat.le_refl _), k acc us ow' H' (hd acc hla hP) (st.unwipe hid sp st') sp hA' hoA ia⟩
/-- [e for .. in ..] as a slot's own list -/
theorem wv_lc {m : Bool} (js : List Nat) {scope : Scope} {pos : Pos} (own : List (Str × Nat)) {Q : Sv X.K → Prop} (hm : m = true ∨ p = true) (nd : X.N.Nodup) (hc : X.calm = true) (ok : BlkOk X.N X.env.scope scope own) (hn : js ≠ []) (hj : ∀ j ∈ js, j < S.length) (hv : ∀ j ∈ js, j ∈ own.map (·.2)) (hid : Idle S (own.map (·.2)))
    (hg : ∀ (s : Shared) (H : Hp) (C : Addr) (cl : List (Str × Addr)) (fp : List Addr), PG (Bk X scope s H C cl fp) tg (gT X.K m js))
    (h : WI X tg iter S p fun ds => LcQ X scope elt ifs S m js (own.map (·.2)) ds fun acc => Q (.own acc)) (hs : ∀ x, foldedSetIterable iter X.env x = pure x := by intro _; rfl) : WV X (.ListComp elt [⟨tg, iter, ifs, 0⟩] scope pos) S Q := fun ow H σ Q' st k => by
  refine PE.we (pe_lc (g := gT X.K m js) (tt := fun (σ : L2.St) (H : Hp) (Q : Bool → Hp → Prop) => ∀ (s : Shared) (H0 : Hp) (C : Addr) (cl : List (Str × Addr)) (fp : List Addr), WTsr (Bk X scope s H0 C cl fp) ifs σ H Q)
    (te := fun (σ : L2.St) (H : Hp) (Q : VK) => ∀ (s : Shared) (H0 : Hp) (C : Addr) (cl : List (Str × Addr)) (fp : List Addr), WE (Bk X scope s H0 C cl fp) elt σ H Q) hc nd pi_W ok hg
    (fun s H C cl fp => ⟨fun pins s2 σ2 H2 Q I q => (q s H C cl fp).r pins s2 I⟩) (fun s H C cl fp => ⟨fun pins s2 σ2 H2 Q I q => (q s H C cl fp).r pins s2 I⟩) hs) ?_
  refine h ow H σ _ st fun ds J ow1 H1 q st1 e1 hJ A hA => ?_
  refine lc_go hm hn hj hv hid st1 hJ q hA fun acc us ow2 H2 qa st2 e2 hA2 hoA ia => ?_
  exact k (.own acc) (.ref A) ow2 H2 qa st2 (e1.trans e2) ⟨A, us, rfl, zn_of (e1.dm A hA) hoA hA2, ia⟩
/-- .. frozen -/
theorem w_ofV {e : Expr} {Q : D → Prop} (h : WV X e S fun s => ∃ ds, s = .own ds ∧ Q (.list ds)) : W X e S Q := fun ow H σ Q' st k => by
  refine h ow H σ Q' st fun s v ow1 H1 ⟨ds, es, q⟩ st1 e1 ok => ?_
  subst es
  obtain ⟨l, vs, ev, hz, ia⟩ := ok
  cases ev
  obtain ⟨z1, z2, z3⟩ := zn_some hz
  let ow2 : Addr → Nat := fun x => if x = l then 0 else ow1 x
  have w1 : ∀ x, x ≠ l → ow2 x = ow1 x := fun x c => if_neg c
  have w2 : ow2 l = 0 := if_pos rfl
  have fe : Ex (fz ow1 H1) (fz ow2 H1) := fun a o q => by
    obtain ⟨q1, q2⟩ := pt_some q
    by_cases c : a = l
    · rw [c] at q1 ⊢
      exact pt_of w2 q1
    · exact pt_of ((w1 a c).trans q2) q1
  have pe : ∀ i, i < S.length → pt ow2 (i + 1) H1 = pt ow1 (i + 1) H1 := fun i hi => by
    funext a
    unfold pt
    by_cases c : a = l
    · rw [c, w2, z2, if_neg (by omega), if_neg (by omega)]
    · rw [w1 a c]
  refine k (.list ds) _ ow2 H1 q ⟨st1.len, fun i s hs => ?_⟩ ⟨e1.fz.trans fe, fun mm hm a o q => ?_, e1.dm⟩ (.lst (pt_of w2 z3) (ia.mono fe))
  · rw [pe i (List.getElem?_eq_some_iff.mp hs).1]
    exact s.mono fe (Evl.Ex.refl _) (st1.sl i s hs)
  · obtain ⟨q1, q2⟩ := pt_some (e1.fr mm hm a o q)
    refine pt_of ((w1 a fun c => ?_).trans q2) q1
    obtain ⟨q3, _⟩ := pt_some q
    rw [c, z1] at q3
    cases q3
/-- x = [..] on one line, x a local -/
theorem ws_lc {D0 : De X.K} {m : Bool} (i : Nat) {y : Str} {py spos : Pos} (js : List Nat) {scope : Scope} {pos : Pos} (own : List (Str × Nat)) (hm : m = true ∨ p = true) (nd : X.N.Nodup) (hc : X.calm = true) (hi : i < S.length) (ok : BlkOk X.N X.env.scope scope own) (hn : js ≠ []) (hj : ∀ j ∈ js, j < S.length) (hv : ∀ j ∈ js, j ∈ own.map (·.2)) (hid : Idle S (own.map (·.2)))
    (hg : ∀ (s : Shared) (H : Hp) (C : Addr) (cl : List (Str × Addr)) (fp : List Addr), PG (Bk X scope s H C cl fp) tg (gT X.K m js))
    (h : WI X tg iter S p fun ds => LcQ X scope elt ifs S m js (own.map (·.2)) ds fun acc => D0.nx (S.set i (.own acc)))
    (hsw : swapsWith (.ListComp elt [⟨tg, iter, ifs, 0⟩] scope pos) (some (.Name y py)) spos.line X.env = pure true) (hy : X.N[i]? = some y := by rfl) (hyl : X.env.scope.names.lookup y = some .local := by rfl) (hs : ∀ x, foldedSetIterable iter X.env x = pure x := by intro _; rfl) :
    WS X (.Assign [.Name y py] (.ListComp elt [⟨tg, iter, ifs, 0⟩] scope pos) spos) S D0 := fun ow H σ E st mt => by
  refine PS.we (ps_setLc (g := gT X.K m js) (tt := fun (σ : L2.St) (H : Hp) (Q : Bool → Hp → Prop) => ∀ (s : Shared) (H0 : Hp) (C : Addr) (cl : List (Str × Addr)) (fp : List Addr), WTsr (Bk X scope s H0 C cl fp) ifs σ H Q)
    (te := fun (σ : L2.St) (H : Hp) (Q : VK) => ∀ (s : Shared) (H0 : Hp) (C : Addr) (cl : List (Str × Addr)) (fp : List Addr), WE (Bk X scope s H0 C cl fp) elt σ H Q) hc nd hy hyl hsw pi_W ok hg
    (fun s H C cl fp => ⟨fun pins s2 σ2 H2 Q I q => (q s H C cl fp).r pins s2 I⟩) (fun s H C cl fp => ⟨fun pins s2 σ2 H2 Q I q => (q s H C cl fp).r pins s2 I⟩) hs) ?_
  refine h ow H σ _ st fun ds J ow1 H1 q st1 e1 hJ A hA => ?_
  refine lc_go (Q' := fun v H1 => gName i v σ H1 E.nx) hm hn hj hv hid st1 hJ q hA fun acc us ow2 H2 qa st2 e2 hA2 hoA ia => ?_
  obtain ⟨ow3, st3, e3⟩ := Kv.store (s := .own acc) (v := .ref A) st2 (e1.trans e2) ⟨A, us, rfl, zn_of (e1.dm A hA) hoA hA2, ia⟩ hi
  exact mt.nx _ ow3 H2 _ qa (by rw [List.length_set]) st3 e3

/-! ### comprehensions as maps and filters -/
/-- no test, each item's element told -/
theorem lcq_map {α : Type} {scope : Scope} {m : Bool} {js vs : List Nat} {Q : List D → Prop} (xs : List α) (enc : α → D) (f : α → D) (hz : xs.length < sizeLine)
    (h : ∀ a, a ∈ xs → ∃ S2 : Sto X.K, inT m js (enc a) (wipeS S vs) S2 ∧ ∀ (s : Shared) (H : Hp) (C : Addr) (cl : List (Str × Addr)) (fp : List Addr), W (Bk X scope s H C cl fp) elt S2 (fun y => y = f a)) (q : Q (xs.map f)) : LcQ X scope elt [] S m js vs (xs.map enc) Q := by
  refine ⟨by rw [List.length_map]; exact hz, fun i acc => acc = (xs.take i).map f, rfl, fun i d acc hd _ hP => ?_, fun acc _ hP => ?_⟩
  · rw [List.getElem?_map] at hd
    cases e : xs[i]? with
    | none =>
      rw [e] at hd
      cases hd
    | some a =>
      rw [e] at hd
      cases hd
      obtain ⟨S2, it, hw⟩ := h a (List.mem_of_getElem? e)
      refine ⟨S2, it, fun s H C cl fp => wts_nil ?_⟩
      rw [if_pos rfl]
      intro s' H' C' cl' fp'
      refine (hw s' H' C' cl' fp').mono fun y ey => ?_
      show acc ++ [y] = (xs.take (i + 1)).map f
      rw [ey, hP, List.take_add_one, e, List.map_append]
      rfl
  · rw [List.length_map, List.take_length] at hP
    rw [hP]
    exact q
/-- one test -/
theorem lcq_filter {α : Type} {scope : Scope} {m : Bool} {js vs : List Nat} {Q : List D → Prop} (xs : List α) (enc : α → D) (t : α → Bool) (f : α → D) (hz : xs.length < sizeLine)
    (h : ∀ a, a ∈ xs → ∃ S2 : Sto X.K, inT m js (enc a) (wipeS S vs) S2 ∧ (∀ (s : Shared) (H : Hp) (C : Addr) (cl : List (Str × Addr)) (fp : List Addr), WTs (Bk X scope s H C cl fp) ifs S2 (fun b => b = t a)) ∧
      (t a = true → ∀ (s : Shared) (H : Hp) (C : Addr) (cl : List (Str × Addr)) (fp : List Addr), W (Bk X scope s H C cl fp) elt S2 (fun y => y = f a))) (q : Q ((xs.filter t).map f)) : LcQ X scope elt ifs S m js vs (xs.map enc) Q := by
  refine ⟨by rw [List.length_map]; exact hz, fun i acc => acc = ((xs.take i).filter t).map f, rfl, fun i d acc hd _ hP => ?_, fun acc _ hP => ?_⟩
  · rw [List.getElem?_map] at hd
    cases e : xs[i]? with
    | none =>
      rw [e] at hd
      cases hd
    | some a =>
      rw [e] at hd
      cases hd
      obtain ⟨S2, it, ht, hw⟩ := h a (List.mem_of_getElem? e)
      refine ⟨S2, it, fun s H C cl fp ow' H' σ2 Q' st' k => ht s H C cl fp ow' H' σ2 Q' st' fun b ow2 H2 eb => k b ow2 H2 ?_⟩
      subst eb
      cases c : t a with
      | true =>
        rw [if_pos rfl]
        intro s' H' C' cl' fp'
        refine (hw c s' H' C' cl' fp').mono fun y ey => ?_
        show acc ++ [y] = ((xs.take (i + 1)).filter t).map f
        rw [ey, hP, List.take_add_one, e, Option.toList_some, List.filter_append, List.map_append, List.filter_cons, if_pos c]
        rfl
      | false =>
        rw [if_neg Bool.false_ne_true]
        show acc = ((xs.take (i + 1)).filter t).map f
        rw [hP, List.take_add_one, e, Option.toList_some, List.filter_append, List.map_append, List.filter_cons, if_neg (by rw [c]; exact Bool.false_ne_true)]
        exact (List.append_nil _).symm
  · rw [List.length_map, List.take_length] at hP
    rw [hP]
    exact q
end
end K3
end

section
set_option autoImplicit true
set_option Elab.async false
set_option linter.all false
set_option maxRecDepth 100000
set_option maxHeartbeats 1000000
/-! Defs over data: promises, bodies, calls; tuple.index. -/
namespace K3
open PySem PySem.Spec PyProof.Rows L2

/-! ### a promise where no repr is under way -/
structure FnG (P : Program) (w : World) (K : PySem.W.Frag) (mg : Str → Option Value) (base : Heap) (k : Nat) (f : Addr) (fd : FuncData) (ps : List Str) (sp : Sp) : Prop where
  len : ∀ vs H Q E, sp vs H Q E → vs.length = ps.length
  run : ∀ (A : Around) (outer : List Env) (s : Shared) (H : Hp) (args : Args) (us : List Value) (vs : List V) (Q : VK) (E : XK), A.guards = some [] → Room k A → Env0 P w K mg base A outer s H → BindsTo s fd args (ps.zip us) → Vals vs us → sp vs H Q E →
    codeAny (model P w) A (.call (.ref f) args) (CR CX0 outer P w H s Q E) s
/-- where one stands in a def's body -/
abbrev Bx (P : Program) (w : World) (K : PySem.W.Frag) (mg : Str → Option Value) (base : Heap) (N : List Str) (qual : Str) (scope : Scope) (f : Addr) (cdv : Value) (A : Around) (outer : List Env) (s : Shared) (H : Hp) (E : XK) : Cx := (cxOf CX0 P w K mg base N qual scope f cdv A outer s H E).nox
/-- a def, from its body -/
theorem fnG_of {P : Program} {w : World} {K : PySem.W.Frag} {mg : Str → Option Value} {base : Heap} {k : Nat} {f : Addr} {name qual : Str} {params : Arguments} {body : List Stmt} {scope : Scope} {dV kV doc pm cdv ct oc : Value} {an od : Option Addr}
    {osl : Array (Option Value)} {N ps : List Str} {sp : Sp} (lk : K.lookup f = some ⟨oc, od, .func (PySem.W.fnOf name qual params body scope dV kV doc pm an cdv ct), osl⟩) (hcd : PySem.W.codeIn K cdv qual = true) (S : FnScope N ps scope)
    (len : ∀ vs H Q E, sp vs H Q E → vs.length = ps.length)
    (hbody : ∀ (A : Around) (outer : List Env) (s : Shared) (H : Hp) (vs : List V) (Q : VK) (E : XK), (A.deeper (envOfC qual scope s.heap.objs.size f cdv)).guards = some [] → Room k (A.deeper (envOfC qual scope s.heap.objs.size f cdv)) → sp vs H Q E →
      WSr (Bx P w K mg base N qual scope f cdv A outer s H E) body { nx := fun _ H' => Q .non H', rt := Q } (L2.start N vs) H) :
    FnG P w K mg base (k + 1) f (PySem.W.fnOf name qual params body scope dV kV doc pm an cdv ct) ps sp := by
  refine ⟨len, fun A outer s H args us vs Q E hgd hr e0 hb r hsp => ?_⟩
  have hl := len _ _ _ _ hsp
  have KX : K.In s.heap := e0.mod.kin.keeps fun b o e => (e0.bs b o e).1
  have lim : s.heap.NoLimit := e0.mod.nolimit.keeps fun b o e => (e0.bs b o e).1
  have hkind : ∀ y ∈ ps.zip us, scope.names.lookup y.1 = some .local ∨ (scope.names.lookup y.1 = some .cell ∧ ((cellsFrom (s.heap.objs.size + 1) scope.names []).lookup y.1).isSome = true) := fun ⟨n, v⟩ hy => by
    rcases S.par n (List.of_mem_zip hy).1 with q | q
    · exact .inl q
    · exact .inr ⟨q, PySem.W.cellsFrom_some _ _ _ (.inl q)⟩
  refine codeAny_call_function hr.depth (KX _ _ lk) rfl S.co S.gen rfl (PySem.W.codeRec_of KX hcd) (hb _ _ _ _ ?_)
  refine wpAny_newFunctionEnv_cells S.kind hkind fun env he s1 x => ?_
  subst he
  refine ⟨lim.keeps x.toInCall.keep, codeAny_func ?_⟩
  have ht := hbody A outer s H vs Q E hgd (hr.deeper _) hsp
  have I : Inv (cxOf CX0 P w K mg base N qual scope f cdv A outer s H E) [] (L2.start N vs) H s1 := inv_start S hr.hd e0 hl r x
  have hn : PSs (Bx P w K mg base N qual scope f cdv A outer s H E) body (WSr (Bx P w K mg base N qual scope f cdv A outer s H E) body) := pss_W
  refine wpAny_mono (hn.nox.run [] s1 (L2.start N vs) H _ I ht) (fun fl s' hs => ?_) fun e s' hs => hs
  have fin : ∀ {σ' : L2.St} {H' : Hp} {v : V} {u : Value}, Inv (cxOf CX0 P w K mg base N qual scope f cdv A outer s H E) [] σ' H' s' → RelV v u → Q v H' → CE outer P w H s Q u s' :=
    fun {σ' H' v u} J rv q => ⟨v, H', J.os, J.bare, J.base, J.hok, rv, q⟩
  cases fl with
  | ret u =>
    obtain ⟨v, σ', H', J, rv, q⟩ := hs
    exact fin J rv q
  | next =>
    obtain ⟨σ', H', J, q⟩ := hs
    exact fin (v := V.non) (u := Value.none) J rfl q
  | brk =>
    obtain ⟨_, _, _, q⟩ := hs
    exact False.elim q
  | cont =>
    obtain ⟨_, _, _, q⟩ := hs
    exact False.elim q
/-- the callee runs -/
theorem run_fnG {X : Cx} {k : Nat} {f : Addr} {fd : FuncData} {ps : List Str} {sp : Sp} {E : XK} {pins : List (Addr × Obj)} {σ : L2.St} {H : Hp} {s : Shared} {Q : VK} {us : List Value} {vs : List V} (F : FnG X.prog X.w X.K X.mg X.base k f fd ps sp) (hgd : X.A.guards = some []) (hr : Room k X.A) (hb : Binds X.K fd ps [])
    (I : Inv X pins σ H s) (r : Vals vs us) (h : sp vs H Q E) : wpAny (model X.prog X.w) X.A (call (.ref f) us) (EP X pins σ Q) X.xe s := by
  have hl : us.length = ps.length := by rw [← r.length]; exact F.len _ _ _ _ h
  have hb' : BindsTo s fd ⟨us, []⟩ (ps.zip us) := by
    have z := hb s us I.kIn (by rw [List.append_nil]; exact hl)
    rw [List.append_nil] at z
    exact z
  refine wpAny_call (codeAny_mono (F.run X.A X.stack s H ⟨us, []⟩ us vs Q E hgd hr I.env0 hb' r h) fun r s' hq => ?_)
  cases r with
  | error e => exact False.elim hq
  | ok fl =>
    cases fl with
    | ret u => exact I.after hq
    | next => exact False.elim hq
    | brk => exact False.elim hq
    | cont => exact False.elim hq

/-! ### promises over data -/
abbrev Spf := List D → (D → Prop) → Prop
def spD (K : PySem.W.Frag) (spf : Spf) : Sp := fun vs H Q _ => ∃ (F : Hp) (ds : List D) (R : D → Prop), Ex F H ∧ IsA K F vs ds ∧ spf ds R ∧ ∀ (d : D) (v : V) (H' : Hp), R d → Ex H H' → Is K (cut F H H') v d → Q v H'
/-- a def of the module by its name -/
def FnN (P : Program) (w : World) (K : PySem.W.Frag) (mg : Str → Option Value) (base : Heap) (k : Nat) (x : Str) (ps : List Str) (sp : Sp) : Prop :=
  ∃ f fd, mg x = some (.ref f) ∧ PySem.W.keepIn K (.ref f) = true ∧ Binds K fd ps [] ∧ FnG P w K mg base k f fd ps sp
/-- what a body's place has -/
def Rm (k : Nat) (A : Around) : Prop := Room k A ∧ A.guards = some []
theorem Rm.mono {j k : Nat} {A : Around} (r : Rm k A) (h : j ≤ k) : Rm j A := ⟨r.1.mono h, r.2⟩

def nos {K : PySem.W.Frag} (n : Nat) : Sto K := List.replicate n .no
/-- the first store of a def -/
def S0 {K : PySem.W.Frag} (n : Nat) (ds : List D) : Sto K := ds.map .dat ++ nos (n - ds.length)
theorem start_get {N : List Str} {vs : List V} {i : Nat} : (L2.start N vs)[i]?.join = vs[i]? := by
  unfold L2.start
  by_cases h : i < vs.length
  · rw [List.getElem?_append_left (by simpa using h), List.getElem?_map]
    cases vs[i]? <;> rfl
  · rw [List.getElem?_append_right (by simpa using h), List.getElem?_eq_none_iff.mpr (Nat.le_of_not_lt h)]
    rw [List.getElem?_replicate]
    split <;> rfl
theorem start_len {N : List Str} {vs : List V} (h : vs.length ≤ N.length) : (L2.start N vs).length = N.length := by
  unfold L2.start
  rw [List.length_append, List.length_map, List.length_replicate]
  omega
/-- owners at a def's entry -/
def ow0 (F : Hp) (n : Nat) : Addr → Nat := fun a => match F a with
  | some _ => 0
  | none => n + 1
theorem ow0_fz {F H : Hp} {n : Nat} (e : Ex F H) : fz (ow0 F n) H = F := by
  funext a
  unfold fz pt ow0
  cases h : F a with
  | none => exact if_neg (Nat.succ_ne_zero n)
  | some o =>
    show (if 0 = 0 then H a else none) = some o
    rw [if_pos rfl]
    exact e a o h
theorem std0 {K : PySem.W.Frag} {F H : Hp} {N : List Str} {vs : List V} {ds : List D} (e : Ex F H) (a : IsA K F vs ds) (hN : ds.length ≤ N.length) : Std K (ow0 F N.length) H (L2.start N vs) (S0 N.length ds) := by
  have hl := a.length
  refine ⟨?_, fun i s h => ?_⟩
  · unfold S0 nos
    rw [start_len (by omega), List.length_append, List.length_map, List.length_replicate]
    omega
  · rw [start_get, ow0_fz e]
    unfold S0 nos at h
    by_cases hi : i < ds.length
    · rw [List.getElem?_append_left (by simpa using hi), List.getElem?_map] at h
      cases hd : ds[i]? with
      | none =>
        rw [hd] at h
        cases h
      | some d =>
        rw [hd] at h
        cases h
        obtain ⟨v, ev, iv⟩ := a.get hd
        rw [ev]
        exact ⟨v, rfl, iv⟩
    · rw [List.getElem?_append_right (by simpa using hi), List.getElem?_replicate] at h
      split at h
      · cases h
        exact trivial
      · cases h
/-- the end of a body that writes nothing elder -/
theorem back0 {F H H' : Hp} {n : Nat} {ow' : Addr → Nat} (e : Ex F H) (sp : Stp n (ow0 F n) H ow' H') : Ex H H' ∧ Ex (fz ow' H') (cut F H H') := by
  have o1 : ∀ a o, H a = some o → H' a = some o ∧ ow' a = ow0 F n a := fun a o h => sp.le h (by
    unfold ow0
    cases F a with
    | none => exact .inr (Nat.lt_succ_self n)
    | some _ => exact .inl rfl)
  refine ⟨fun a o h => (o1 a o h).1, fun a o h => ?_⟩
  obtain ⟨h1, h2⟩ := pt_some h
  unfold cut
  cases hH : H a with
  | none => exact h1
  | some u =>
    cases hF : F a with
    | some v => exact h1
    | none =>
      have q := (o1 a u hH).2
      unfold ow0 at q
      rw [hF] at q
      have q' : ow' a = n + 1 := q
      omega
/-- THE RULE for a def over data -/
theorem fnD_of {P : Program} {w : World} {K : PySem.W.Frag} {mg : Str → Option Value} {base : Heap} {k : Nat} {f : Addr} {x qual : Str} {st : Stmt} {fd : FuncData} {N ps : List Str} {spf : Spf}
    (Fd : L2.FunD K x qual (defArgs st) (defBody st) (defScope st) [] [] f fd) (hmg : mg x = some (.ref f)) (S : FnScope N ps (defScope st))
    (hb : ∀ (kV doc pm : Value) (an : Option Addr) (cdv ct : Value) (us : List Value), us.length = ps.length → bindArgs (PySem.W.fnOf x qual (defArgs st) (defBody st) (defScope st) .none kV doc pm an cdv ct) ⟨us, []⟩ = pure (ps.zip us))
    (hlen : ∀ ds R, spf ds R → ds.length = ps.length)
    (hbody : ∀ (cdv : Value) (A : Around) (outer : List Env) (s : Shared) (H : Hp) (E : XK) (ds : List D) (R : D → Prop), Rm k (A.deeper (envOfC qual (defScope st) s.heap.objs.size f cdv)) → spf ds R →
      WSs (Bx P w K mg base N qual (defScope st) f cdv A outer s H E) (defBody st) (S0 N.length ds) { nx := fun _ => R .none, rt := fun d _ => R d }) :
    FnN P w K mg base (k + 1) x ps (spD K spf) := by
  refine ⟨f, fd, hmg, Fd.kp, FunD.bindsN Fd hb, ?_⟩
  obtain ⟨oc, od, dV, kV, doc, pm, an, cdv, ct, osl, rfl, lk, hcd, hdf, hkw⟩ := Fd.ex
  have hpN : ps.length ≤ N.length := by
    have e : (N.take ps.length).length = ps.length := congrArg List.length S.pre
    rw [List.length_take] at e
    omega
  refine fnG_of lk hcd S (fun vs H Q E h => ?_) fun A outer s H vs Q E hgd hr h => ?_
  · obtain ⟨F, ds, R, _, a, q, _⟩ := h
    rw [a.length]
    exact hlen ds R q
  · obtain ⟨F, ds, R, ex, a, q, kk⟩ := h
    have hdl := hlen ds R q
    have st0 := std0 (N := N) ex a (by omega)
    have l0 : (S0 (K := K) N.length ds).length = N.length := by
      rw [st0.len]
      exact start_len (by rw [a.length]; omega)
    refine hbody cdv A outer s H E ds R ⟨hr, hgd⟩ q (ow0 F N.length) H (L2.start N vs) _ st0 ⟨fun S' ow' H' σ' p l st' sp => ?_, fun d v S' ow' H' σ' p l st' sp i => ?_, fun S' ow' H' σ' p => p.elim, fun S' ow' H' σ' p => p.elim⟩
    · have sp' : Stp (S0 (K := K) N.length ds).length (ow0 F N.length) H ow' H' := sp
      rw [l0] at sp'
      obtain ⟨b1, b2⟩ := back0 ex sp'
      exact kk .none .non H' p b1 .non
    · have sp' : Stp (S0 (K := K) N.length ds).length (ow0 F N.length) H ow' H' := sp
      rw [l0] at sp'
      obtain ⟨b1, b2⟩ := back0 ex sp'
      exact kk d v H' p b1 (i.mono b2)
section
variable {X : Cx} {S : Sto X.K} {Q : D → Prop} {e o : Expr} {es : List Expr} {pos : Pos}
/-- f(e, ..) -/
theorem w_call {k j : Nat} {x : Str} {ps : List Str} {spf : Spf} {p : Pos} (G : FnN X.prog X.w X.K X.mg X.base j x ps (spD X.K spf)) (hr : Rm k X.A) (hjk : j ≤ k) (h : WA X (e :: es) S fun ds => spf ds Q) (hg : Gl X x := by rfl) (hdb : (x == ("__debug__" : Str)) = false := by decide)
    (he : starEach (e :: es) X.env = (false, eval e X.env) :: starEach es X.env := by rfl) (hpl : (backTo pos (starEach es X.env)).any (·.1) = false := by rfl) : W X (.Call (.Name x p) (e :: es) [] pos) S Q := fun ow H σ Q' st k => .mk fun pins s I => by
  obtain ⟨f, fd, hm, hk, hb, F⟩ := G
  refine wpAny_Call_Name_kw (ld_glob I hg hm ?_ hdb)
  have hA := (h ow H σ (fun vs H1 => ∃ (ds : List D) (ow1 : Addr → Nat), spf ds Q ∧ Std X.K ow1 H1 σ S ∧ Stp S.length ow H ow1 H1 ∧ IsA X.K (fz ow1 H1) vs ds) st (fun ds vs ow1 H1 q st1 e1 i1 => ⟨ds, ow1, q, st1, e1, i1⟩)).r pos pins s I
  refine PySem.W.callWith_K (h₀ := X.base) I.ok.mod.kin hk (thn hA fun us s1 ⟨vs, H1, I1, r, ds, ow1, q, st1, e1, i1⟩ => ⟨I1.kIn, ?_⟩) he hpl
  refine run_fnG (E := fun _ _ _ => False) F hr.2 (hr.1.mono hjk) hb I1 r ⟨fz ow1 H1, ds, Q, pt_le, i1, q, fun d v H' rq ex i => ?_⟩
  exact k d v (nw ow1 H1) H' rq (st1.ext ex) (e1.trans (.ext ex)) (by rw [fz_nw]; exact i)
/-- t.index(i), a tuple of ints that has it -/
theorem w_index {apos cpos : Pos} (h : W X o S fun d => ∃ ns : List Int, d = .tuple (ns.map .int) ∧ W X e S fun y => ∃ i : Int, y = .int i ∧ i ∈ ns ∧ Q (.int (ns.idxOf i : Nat)))
    (hbase : attributeBase o "index" X.env (eval o X.env) = eval o X.env := by rfl)
    (hfew : ((backTo cpos (starEach [e] X.env)).all (fun x => !x.1) && (backToKw cpos (keywordEach [] X.env)).all (fun x => x.1.isSome)
      && decide ([e].length + ([] : List Keyword).length + (if ([] : List Keyword).isEmpty then 0 else 1) < 30)) = true := by rfl)
    (hline : (apos.endLine == cpos.line) = true := by rfl) (hs : starEach [e] X.env = (false, eval e X.env) :: starEach [] X.env := by rfl) : W X (.Call (.Attribute o "index" apos) [e] [] cpos) S Q := fun ow H σ Q' st k => .mk fun pins s I => by
  have h1 := (h ow H σ (fun v H1 => ∃ (ns : List Int) (ow1 : Addr → Nat), (W X e S fun y => ∃ i : Int, y = .int i ∧ i ∈ ns ∧ Q (.int (ns.idxOf i : Nat))) ∧ Std X.K ow1 H1 σ S ∧ Stp S.length ow H ow1 H1 ∧ Is X.K (fz ow1 H1) v (.tuple (ns.map .int))) st
    (fun d v ow1 H1 q st1 e1 i1 => by
      obtain ⟨ns, rfl, q⟩ := q
      exact ⟨ns, ow1, q, st1, e1, i1⟩)).r pins s I
  refine wpAny_Call_method_late hbase hfew hline rfl (thn h1 fun v s1 ⟨x, H1, I1, r1, ns, ow1, q1, st1, e1, i1⟩ => ?_)
  cases i1 with
  | @tup t vs _ p1 a1 =>
    cases r1
    obtain ⟨ob, hob, hc, hd⟩ := p1
    obtain ⟨g1, g2⟩ := I1.hok t _ (pt_le _ _ hob)
    refine ⟨"tuple", "tuple.index", PySem.F.plainAttrs_tuple, PySem.F.slot_tuple_index, PySem.F.type_tuple_index, ⟨ob, g1, hc⟩, fun a ea => by cases ea; exact ⟨ob, g1, hd⟩, ?_⟩
    have hA := ((wa_cons (Q := fun ds => ∃ i : Int, ds = [.int i] ∧ i ∈ ns ∧ Q (.int (ns.idxOf i : Nat))) (q1.mono fun y ⟨i, ey, hy, q⟩ => wa_nil ⟨i, by rw [ey], hy, q⟩) hs) ow1 H1 σ
      (fun vs H2 => ∃ (i : Int) (ow2 : Addr → Nat), vs = [.int i] ∧ i ∈ ns ∧ Q (.int (ns.idxOf i : Nat)) ∧ Std X.K ow2 H2 σ S ∧ Stp S.length ow1 H1 ow2 H2) st1 (fun ds us ow2 H2 q st2 e2 i2 => by
        obtain ⟨i, rfl, hi, q⟩ := q
        exact ⟨i, ow2, IsA.ints (ns := [i]) i2, hi, q, st2, e2⟩)).r cpos pins s1 I1
    rw [hs] at hA ⊢
    refine Calls.callWith_builtin (by rfl) (Calls.evalArgs_plain ?_)
    refine thn hA fun us s2 ⟨ws, H2, I2, r2, i, ow2, ew, hi, q, st2, e2⟩ => ?_
    subst ew
    obtain ⟨u, rfl, ru⟩ := vals1 r2
    obtain ⟨tk, rfl⟩ := ru
    have eW : vs = ns.map V.int := a1.ints
    subst eW
    have hsq : SqT X.K H2 t (ns.map V.int) := Pt.sq ⟨ob, pt_le _ _ (e2.fz _ _ hob), hc, hd⟩
    obtain ⟨its, rv, ht, _⟩ := I2.tuple hsq
    refine SeqAt.tuple_index_ints ht rv.ints hi ?_
    exact ⟨.int _, H2, I2.tok _, ⟨_, rfl⟩, k _ _ ow2 H2 q st2 (e1.trans e2) (.int _)⟩
end
end K3
end

section
set_option autoImplicit true
set_option Elab.async false
set_option linter.all false
set_option maxRecDepth 100000
set_option maxHeartbeats 1000000
/-! Short rules: builtins by name, targets, lists and dicts of a slot's own. -/
namespace K3
open PySem PySem.Spec PyProof.Rows L2
theorem ite_dec {c : Prop} [Decidable c] {A B : Prop} (h1 : c → A) (h2 : ¬ c → B) : if decide c = true then A else B := by
  by_cases h : c
  · rw [if_pos (decide_eq_true h)]
    exact h1 h
  · rw [if_neg (by rw [decide_eq_false h]; exact Bool.false_ne_true)]
    exact h2 h
theorem ite_b {c : Bool} {A B : Prop} (h1 : c = true → A) (h2 : c = false → B) : if c = true then A else B := by
  cases c with
  | true => rw [if_pos rfl]; exact h1 rfl
  | false => rw [if_neg Bool.false_ne_true]; exact h2 rfl
section
variable {X : Cx} {S : Sto X.K} {Q : D → Prop} {e e2 o : Expr} {es : List Expr} {pos p : Pos}
theorem w_len (T : Tx X.K X.mg) (h : W X e S fun d => ∃ ds, (d = .list ds ∨ d = .tuple ds) ∧ Q (.int (ds.length : Nat))) (hg : Gl X "len" := by rfl) (he : starEach [e] X.env = (false, eval e X.env) :: starEach [] X.env := by rfl) : W X (.Call (.Name "len" p) [e] [] pos) S Q :=
  w_callB (id := "len") hg T.free (by decide +kernel) (wa_cons (h.mono fun d ⟨ds, ed, q⟩ => wa_nil (by
    rcases ed with rfl | rfl
    · exact cd_lenL q
    · exact cd_lenT q)) he) (he := he)
theorem w_tuple (T : Tx X.K X.mg) (h : W X e S fun d => ∃ ds, d = .list ds ∧ Q (.tuple ds)) (hg : Gl X "tuple" := by rfl) (he : starEach [e] X.env = (false, eval e X.env) :: starEach [] X.env := by rfl) : W X (.Call (.Name "tuple" p) [e] [] pos) S Q :=
  w_callT (T := "tuple") hg T.free (by decide +kernel) (wa_cons (h.mono fun d ⟨ds, ed, q⟩ => wa_nil (by subst ed; exact cd_tuple q)) he) (he := he)
theorem w_list (T : Tx X.K X.mg) (h : W X e S fun d => ∃ ds, (d = .list ds ∨ d = .tuple ds) ∧ Q (.list ds)) (hg : Gl X "list" := by rfl) (he : starEach [e] X.env = (false, eval e X.env) :: starEach [] X.env := by rfl) : W X (.Call (.Name "list" p) [e] [] pos) S Q :=
  w_callT (T := "list") hg T.free (by decide +kernel) (wa_cons (h.mono fun d ⟨ds, ed, q⟩ => wa_nil (cd_list ed q)) he) (he := he)
theorem w_intc (T : Tx X.K X.mg) (h : W X e S fun d => ∃ i : Int, d = .int i ∧ Q (.int i)) (hg : Gl X "int" := by rfl) (he : starEach [e] X.env = (false, eval e X.env) :: starEach [] X.env := by rfl) : W X (.Call (.Name "int" p) [e] [] pos) S Q :=
  w_callT (T := "int") hg T.free (by decide +kernel) (wa_cons (h.mono fun d ⟨ds, ed, q⟩ => wa_nil (by subst ed; exact cd_int q)) he) (he := he)
theorem w_abs (T : Tx X.K X.mg) (h : W X e S fun d => ∃ i : Int, d = .int i ∧ Q (.int (if i < 0 then -i else i))) (hg : Gl X "abs" := by rfl) (he : starEach [e] X.env = (false, eval e X.env) :: starEach [] X.env := by rfl) : W X (.Call (.Name "abs" p) [e] [] pos) S Q :=
  w_callB (id := "abs") hg T.free (by decide +kernel) (wa_cons (h.mono fun d ⟨ds, ed, q⟩ => wa_nil (by subst ed; exact cd_abs q)) he) (he := he)
theorem w_sum (T : Tx X.K X.mg) (hc : X.calm = true) (h : W X e S fun d => ∃ ns : List Int, (d = .list (ns.map .int) ∨ d = .tuple (ns.map .int)) ∧ Q (.int ns.sum)) (hg : Gl X "sum" := by rfl) (he : starEach [e] X.env = (false, eval e X.env) :: starEach [] X.env := by rfl) : W X (.Call (.Name "sum" p) [e] [] pos) S Q :=
  w_callB (id := "sum") hg T.free (by decide +kernel) (wa_cons (h.mono fun d ⟨ns, ed, q⟩ => wa_nil (by
    rcases ed with rfl | rfl
    · exact cd_sumL hc q
    · exact cd_sumT hc q)) he) (he := he)
theorem w_all (T : Tx X.K X.mg) (hc : X.calm = true) (h : W X e S fun d => ∃ bs : List Bool, d = .list (bs.map .bool) ∧ Q (.bool (bs.all id))) (hg : Gl X "all" := by rfl) (he : starEach [e] X.env = (false, eval e X.env) :: starEach [] X.env := by rfl) : W X (.Call (.Name "all" p) [e] [] pos) S Q :=
  w_callB (id := "all") hg T.free (by decide +kernel) (wa_cons (h.mono fun d ⟨ns, ed, q⟩ => wa_nil (by subst ed; exact cd_all hc q)) he) (he := he)
theorem w_max (T : Tx X.K X.mg) (hc : X.calm = true) (h : W X e S fun d => ∃ i : Int, d = .int i ∧ W X e2 S fun d2 => ∃ j : Int, d2 = .int j ∧ Q (.int (if j > i then j else i))) (hg : Gl X "max" := by rfl)
    (he : starEach [e, e2] X.env = (false, eval e X.env) :: starEach [e2] X.env := by rfl) (he2 : starEach [e2] X.env = (false, eval e2 X.env) :: starEach [] X.env := by rfl) (hpl : (backTo pos (starEach [e2] X.env)).any (·.1) = false := by rfl) : W X (.Call (.Name "max" p) [e, e2] [] pos) S Q :=
  w_callB (id := "max") hg T.free (by decide +kernel) (wa_cons (h.mono fun d ⟨i, ed, q⟩ => wa_cons (q.mono fun d2 ⟨j, ed2, q2⟩ => wa_nil (by subst ed ed2; exact cd_max hc q2)) he2) he) (he := he) (hpl := hpl)
theorem w_min (T : Tx X.K X.mg) (hc : X.calm = true) (h : W X e S fun d => ∃ i : Int, d = .int i ∧ W X e2 S fun d2 => ∃ j : Int, d2 = .int j ∧ Q (.int (if j < i then j else i))) (hg : Gl X "min" := by rfl)
    (he : starEach [e, e2] X.env = (false, eval e X.env) :: starEach [e2] X.env := by rfl) (he2 : starEach [e2] X.env = (false, eval e2 X.env) :: starEach [] X.env := by rfl) (hpl : (backTo pos (starEach [e2] X.env)).any (·.1) = false := by rfl) : W X (.Call (.Name "min" p) [e, e2] [] pos) S Q :=
  w_callB (id := "min") hg T.free (by decide +kernel) (wa_cons (h.mono fun d ⟨i, ed, q⟩ => wa_cons (q.mono fun d2 ⟨j, ed2, q2⟩ => wa_nil (by subst ed ed2; exact cd_min hc q2)) he2) he) (he := he) (hpl := hpl)
/-- len of a slot's own list -/
theorem w_lenOwn (T : Tx X.K X.mg) (i : Nat) {x : Str} {px : Pos} {xs : List D} (hS : S[i]? = some (.own xs)) (q : Q (.int (xs.length : Nat))) (hN : X.N[i]? = some x := by rfl) (hv : Vis X.env.scope x := by first | exact Or.inl rfl | exact Or.inr (Or.inl rfl) | exact Or.inr (Or.inr rfl))
    (hd : (x == ("__debug__" : Str)) = false := by decide) (hcd : (x == ("__classdict__" : Str)) = false := by decide) (hg : Gl X "len" := by rfl) (he : starEach [Expr.Name x px] X.env = (false, eval (Expr.Name x px) X.env) :: starEach [] X.env := by rfl) : W X (.Call (.Name "len" p) [.Name x px] [] pos) S Q := fun ow H σ Q' st k => by
  refine PE.we (pe_callB call_len_seq hg T.free (by decide +kernel) (pa_cons (pe_var hN hv hd hcd) pa_nil he) (he := he)) ?_
  obtain ⟨l, vs, e, g, o, a⟩ := st.own hS
  refine ⟨_, e, l, vs, rfl, .inl (SqL.of g), ?_⟩
  rw [a.length]
  exact k _ _ ow H q st (Stp.refl _ _ _) (.int _)
end

/-! ### what a comprehension takes -/
section
variable {K : PySem.W.Frag} {S : Sto K}
theorem idle_nil : Idle S [] := fun _ h => by cases h
theorem idle_cons {j : Nat} {js : List Nat} (h : S[j]? = some .no ∨ ∃ d, S[j]? = some (.dat d)) (t : Idle S js) : Idle S (j :: js) := fun i hi => by
  rcases List.mem_cons.mp hi with rfl | hi
  · exact h
  · exact t i hi
theorem idle1 {j : Nat} (h : S[j]? = some .no) : Idle S [j] := idle_cons (.inl h) idle_nil
theorem idle2 {i j : Nat} (h : S[i]? = some .no) (h2 : S[j]? = some .no) : Idle S [i, j] := idle_cons (.inl h) (idle1 h2)
theorem idle3 {i j k : Nat} (h : S[i]? = some .no) (h2 : S[j]? = some .no) (h3 : S[k]? = some .no) : Idle S [i, j, k] := idle_cons (.inl h) (idle2 h2 h3)
end
section
variable {X : Cx}
theorem pgs1 {j : Nat} {x : Str} {p : Pos} {es : List Expr} {js : List Nat} (hN : X.N.Nodup) (hi : X.N[j]? = some x) (hx : Loc X.env.scope x) (hf : X.fn x = true ∨ X.env.scope.names.lookup x = some .local) (h : PGs X es (gNames js))
    (hs : (assignEach (.Name x p :: es) X.env).map (·.2) = assign (.Name x p) X.env :: (assignEach es X.env).map (·.2) := by rfl) : PGs X (.Name x p :: es) (gNames (j :: js)) := pgs_cons (pg_name hN hi hx hf) h hs
theorem pgs0 : PGs X [] (gNames []) := pgs_nil
end

/-! ### lists and dicts of a slot's own -/
section
variable {K : PySem.W.Frag} {ow : Addr → Nat} {H : Hp} {σ : L2.St} {S : Sto K}
/-- an object of slot i's own is changed -/
theorem Std.upd (st : Std K ow H σ S) {i : Nat} {l : Addr} {o : HO} {s : Sv K} (ho : ow l = i + 1) (hi : i < S.length) (hl : H l ≠ none) (ok : s.ok (fz ow H) (pt ow (i + 1) (L2.upd H l o)) (σ[i]?.join)) :
    Std K ow (L2.upd H l o) σ (S.set i s) ∧ Stp S.length ow H ow (L2.upd H l o) := by
  have pe : ∀ m, m ≠ i + 1 → pt ow m (L2.upd H l o) = pt ow m H := fun m hm => by
    funext b
    unfold pt
    by_cases e : ow b = m
    · rw [if_pos e, if_pos e, upd_ne (fun q => hm (by rw [← e, q, ho]))]
    · rw [if_neg e, if_neg e]
  refine ⟨⟨by rw [List.length_set]; exact st.len, fun j t h => ?_⟩, ⟨by rw [show fz ow (L2.upd H l o) = fz ow H from pe 0 (by omega)]; exact Evl.Ex.refl _, fun m hm => by rw [pe m (by omega)]; exact Evl.Ex.refl _, fun b q => ?_⟩⟩
  · rw [show fz ow (L2.upd H l o) = fz ow H from pe 0 (by omega)]
    by_cases e : j = i
    · subst e
      rw [List.getElem?_set_self hi] at h
      cases h
      exact ok
    · rw [List.getElem?_set_ne (Ne.symm e)] at h
      rw [pe (j + 1) (by omega)]
      exact st.sl j t h
  · by_cases e : b = l
    · rw [e, upd_same] at q
      cases q
    · rw [upd_ne e] at q
      exact q
theorem own_ok {i : Nat} {l : Addr} {vs : List V} {xs : List D} (e : σ[i]? = some (some (.ref l))) (ho : ow l = i + 1) (a : IsA K (fz ow H) vs xs) : (Sv.own xs : Sv K).ok (fz ow H) (pt ow (i + 1) (L2.upd H l (.lst vs))) (σ[i]?.join) := by
  rw [e]
  exact ⟨l, vs, rfl, pt_of ho upd_same, a⟩
theorem odic_ok {i : Nat} {l : Addr} {kvs : List (Key × V)} {ks : List (Int × D)} (e : σ[i]? = some (some (.ref l))) (ho : ow l = i + 1) (a : IsK K (fz ow H) kvs ks) : (Sv.odic ks : Sv K).ok (fz ow H) (pt ow (i + 1) (L2.upd H l (.dK kvs))) (σ[i]?.join) := by
  rw [e]
  exact ⟨l, kvs, rfl, pt_of ho upd_same, a⟩
theorem some_ne {H : Hp} {l : Addr} {o : HO} (h : H l = some o) : H l ≠ none := fun e => by
  rw [h] at e
  cases e
end
section
variable {X : Cx} {S : Sto X.K} {D0 : De X.K} {e e2 : Expr} {es : List Expr} {pos epos : Pos} {x : Str} {px apos cpos : Pos}
/-- x.append(e) -/
theorem ws_append (i : Nat) {xs : List D} (hS : S[i]? = some (.own xs)) (hz : xs.length < 100000) (h : W X e S fun d => D0.nx (S.set i (.own (xs ++ [d])))) (hN : X.N[i]? = some x := by rfl) (hv : Vis X.env.scope x := by first | exact Or.inl rfl | exact Or.inr (Or.inl rfl) | exact Or.inr (Or.inr rfl))
    (hd : (x == ("__debug__" : Str)) = false := by decide) (hcd : (x == ("__classdict__" : Str)) = false := by decide) (he : starEach [e] X.env = (false, eval e X.env) :: starEach [] X.env := by rfl)
    (hbase : attributeBase (.Name x px) "append" X.env (eval (.Name x px) X.env) = eval (.Name x px) X.env := by rfl)
    (hfew : ((backTo cpos (starEach [e] X.env)).all (fun x => !x.1) && (backToKw cpos (keywordEach [] X.env)).all (fun x => x.1.isSome)
      && decide ([e].length + ([] : List Keyword).length + (if ([] : List Keyword).isEmpty then 0 else 1) < 30)) = true := by rfl)
    (hline : (apos.endLine == cpos.line) = true := by rfl) (hsw : swapsWith (.Call (.Attribute (.Name x px) "append" apos) [e] [] cpos) none epos.line X.env = pure false := by rfl) :
    WS X (.Expr (.Call (.Attribute (.Name x px) "append" apos) [e] [] cpos) epos) S D0 := fun ow H σ E st m => by
  refine PS.we (ps_expr (pe_bm PySem.F.plainAttrs_list PySem.F.slot_list_append PySem.F.type_list_append mt_append (pe_var hN hv hd hcd) (pa_cons pe_W pa_nil he) hbase hfew hline he) hsw) ?_
  obtain ⟨l, vs, ev, g, o, a⟩ := st.own hS
  refine ⟨_, ev, .inl ⟨rfl, vs, SqL.of g⟩, ?_⟩
  refine h ow H σ _ st fun d v ow1 H1 q st1 e1 i1 => ?_
  obtain ⟨l1, vs1, ev1, g1, o1, a1⟩ := st1.own hS
  rw [ev] at ev1
  cases ev1
  have hi : i < S.length := (List.getElem?_eq_some_iff.mp hS).1
  refine ⟨l, vs1, v, rfl, rfl, g1, Nat.lt_of_lt_of_le (by rw [a1.length]; exact hz) (by decide : 100000 ≤ sizeLine), ?_⟩
  obtain ⟨st2, e2⟩ := st1.upd (o := .lst (vs1 ++ [v])) o1 hi (some_ne g1) (own_ok ev o1 (a1.append (.cons i1 .nil)))
  exact m.nx _ ow1 _ _ q (by rw [List.length_set]) st2 (e1.trans e2)
/-- x.extend(e), e a list -/
theorem ws_extend (i : Nat) {xs : List D} (hS : S[i]? = some (.own xs)) (h : W X e S fun d => ∃ ys, d = .list ys ∧ xs.length + ys.length ≤ 100000 ∧ D0.nx (S.set i (.own (xs ++ ys)))) (hN : X.N[i]? = some x := by rfl) (hv : Vis X.env.scope x := by first | exact Or.inl rfl | exact Or.inr (Or.inl rfl) | exact Or.inr (Or.inr rfl))
    (hd : (x == ("__debug__" : Str)) = false := by decide) (hcd : (x == ("__classdict__" : Str)) = false := by decide) (he : starEach [e] X.env = (false, eval e X.env) :: starEach [] X.env := by rfl)
    (hbase : attributeBase (.Name x px) "extend" X.env (eval (.Name x px) X.env) = eval (.Name x px) X.env := by rfl)
    (hfew : ((backTo cpos (starEach [e] X.env)).all (fun x => !x.1) && (backToKw cpos (keywordEach [] X.env)).all (fun x => x.1.isSome)
      && decide ([e].length + ([] : List Keyword).length + (if ([] : List Keyword).isEmpty then 0 else 1) < 30)) = true := by rfl)
    (hline : (apos.endLine == cpos.line) = true := by rfl) (hsw : swapsWith (.Call (.Attribute (.Name x px) "extend" apos) [e] [] cpos) none epos.line X.env = pure false := by rfl) :
    WS X (.Expr (.Call (.Attribute (.Name x px) "extend" apos) [e] [] cpos) epos) S D0 := fun ow H σ E st m => by
  refine PS.we (ps_expr (pe_bm PySem.F.plainAttrs_list PySem.F.slot_list_extend PySem.F.type_list_extend mt_extend (pe_var hN hv hd hcd) (pa_cons pe_W pa_nil he) hbase hfew hline he) hsw) ?_
  obtain ⟨l, vs, ev, g, o, a⟩ := st.own hS
  refine ⟨_, ev, .inl ⟨rfl, vs, SqL.of g⟩, ?_⟩
  refine h ow H σ _ st fun d v ow1 H1 q st1 e1 i1 => ?_
  obtain ⟨ys, rfl, hz, q⟩ := q
  obtain ⟨l1, vs1, ev1, g1, o1, a1⟩ := st1.own hS
  rw [ev] at ev1
  cases ev1
  have hi : i < S.length := (List.getElem?_eq_some_iff.mp hS).1
  cases i1 with
  | @lst b ws _ pb ab =>
    refine ⟨l, b, vs1, ws, rfl, rfl, g1, pt_le _ _ pb, Nat.le_trans (by rw [a1.length, ab.length]; exact hz) (by decide : 100000 ≤ sizeLine), ?_⟩
    obtain ⟨st2, e2⟩ := st1.upd (o := .lst (vs1 ++ ws)) o1 hi (some_ne g1) (own_ok ev o1 (a1.append ab))
    exact m.nx _ ow1 _ _ q (by rw [List.length_set]) st2 (e1.trans e2)
/-- x.insert(e, e2) -/
theorem ws_insert (i : Nat) {xs : List D} (hS : S[i]? = some (.own xs)) (hz : xs.length < 100000) (h : W X e S fun d => ∃ k : Nat, d = .int (k : Int) ∧ k ≤ 100000 ∧ W X e2 S fun y => D0.nx (S.set i (.own (xs.take k ++ [y] ++ xs.drop k)))) (hN : X.N[i]? = some x := by rfl) (hv : Vis X.env.scope x := by first | exact Or.inl rfl | exact Or.inr (Or.inl rfl) | exact Or.inr (Or.inr rfl))
    (hd : (x == ("__debug__" : Str)) = false := by decide) (hcd : (x == ("__classdict__" : Str)) = false := by decide) (he : starEach [e, e2] X.env = (false, eval e X.env) :: starEach [e2] X.env := by rfl) (he2 : starEach [e2] X.env = (false, eval e2 X.env) :: starEach [] X.env := by rfl)
    (hbase : attributeBase (.Name x px) "insert" X.env (eval (.Name x px) X.env) = eval (.Name x px) X.env := by rfl)
    (hfew : ((backTo cpos (starEach [e, e2] X.env)).all (fun x => !x.1) && (backToKw cpos (keywordEach [] X.env)).all (fun x => x.1.isSome)
      && decide ([e, e2].length + ([] : List Keyword).length + (if ([] : List Keyword).isEmpty then 0 else 1) < 30)) = true := by rfl)
    (hline : (apos.endLine == cpos.line) = true := by rfl) (hpl : (backTo cpos (starEach [e2] X.env)).any (·.1) = false := by rfl) (hsw : swapsWith (.Call (.Attribute (.Name x px) "insert" apos) [e, e2] [] cpos) none epos.line X.env = pure false := by rfl) :
    WS X (.Expr (.Call (.Attribute (.Name x px) "insert" apos) [e, e2] [] cpos) epos) S D0 := fun ow H σ E st m => by
  refine PS.we (ps_expr (pe_bm PySem.F.plainAttrs_list PySem.F.slot_list_insert PySem.F.type_list_insert mt_insert (pe_var hN hv hd hcd) (pa_cons pe_W (pa_cons pe_W pa_nil he2) he) hbase hfew hline he hpl) hsw) ?_
  obtain ⟨l, vs, ev, g, o, a⟩ := st.own hS
  refine ⟨_, ev, .inl ⟨rfl, vs, SqL.of g⟩, ?_⟩
  refine h ow H σ _ st fun d v ow1 H1 q st1 e1 i1 => ?_
  obtain ⟨k, rfl, hk, q⟩ := q
  cases i1
  refine q ow1 H1 σ _ st1 fun y w ow2 H2 q2 st2 e2' i2 => ?_
  obtain ⟨l1, vs1, ev1, g1, o1, a1⟩ := st2.own hS
  rw [ev] at ev1
  cases ev1
  have hi : i < S.length := (List.getElem?_eq_some_iff.mp hS).1
  refine ⟨l, vs1, (k : Int), w, rfl, rfl, g1, Nat.lt_of_lt_of_le (by rw [a1.length]; exact hz) (by decide : 100000 ≤ sizeLine), by omega, by omega, ?_⟩
  have hkn : (k : Int).toNat = k := by omega
  rw [hkn]
  obtain ⟨st3, e3⟩ := st2.upd (o := .lst (vs1.take k ++ [w] ++ vs1.drop k)) o1 hi (some_ne g1) (own_ok ev o1 (((a1.take k).append (.cons i2 .nil)).append (a1.drop k)))
  exact m.nx _ ow2 _ _ q2 (by rw [List.length_set]) st3 (e1.trans (e2'.trans e3))
end
/-! ### dicts -/
def lookD (ks : List (Int × D)) (n : Int) : Option D := (ks.find? fun p => decide (p.1 = n)).map (·.2)
def putD (ks : List (Int × D)) (n : Int) (d : D) : List (Int × D) := if (ks.any fun p => decide (p.1 = n)) = true then ks.map (fun p => if p.1 = n then (p.1, d) else p) else ks ++ [(n, d)]
section
variable {K : PySem.W.Frag} {F : Hp}
theorem IsK.look (n : Int) : ∀ {kvs : List (Key × V)} {ks : List (Int × D)}, IsK K F kvs ks → (∃ v d, valV kvs (Sum.inl n) = some v ∧ lookD ks n = some d ∧ Is K F v d) ∨ (valV kvs (Sum.inl n) = none ∧ lookD ks n = none)
  | _, _, .nil => .inr ⟨rfl, rfl⟩
  | _, _, .cons (k := k) (v := v) (d := d) h t => by
    by_cases e : k = n
    · subst e
      refine .inl ⟨v, d, valV_pos rfl, ?_, h⟩
      unfold lookD
      rw [List.find?_cons, decide_eq_true (show (k, d).1 = k from rfl)]
      rfl
    · have e1 : ¬ (Sum.inl k : Key) = Sum.inl n := fun q => e (Sum.inl.inj q)
      rw [valV_neg (by exact e1)]
      have e2 : ∀ ks : List (Int × D), lookD ((k, d) :: ks) n = lookD ks n := fun ks => by
        unfold lookD
        rw [List.find?_cons, decide_eq_false (show ¬ (k, d).1 = n from e)]
      rw [e2]
      exact IsK.look n t
theorem IsK.map (n : Int) {w : V} {y : D} (hw : Is K F w y) : ∀ {kvs : List (Key × V)} {ks : List (Int × D)}, IsK K F kvs ks →
    IsK K F (kvs.map fun kv => if kv.1 = Sum.inl n then (kv.1, w) else kv) (ks.map fun p => if p.1 = n then (p.1, y) else p)
  | _, _, .nil => .nil
  | _, _, .cons (k := k) (v := v) (d := d) h t => by
    rw [List.map_cons, List.map_cons]
    by_cases e : k = n
    · subst e
      rw [if_pos rfl, if_pos rfl]
      exact .cons hw (IsK.map k hw t)
    · rw [if_neg (show ¬ (Sum.inl k : Key) = Sum.inl n from fun q => e (Sum.inl.inj q)), if_neg (show ¬ k = n from e)]
      exact .cons h (IsK.map n hw t)
theorem IsK.snoc {n : Int} {w : V} {y : D} (hw : Is K F w y) : ∀ {kvs : List (Key × V)} {ks : List (Int × D)}, IsK K F kvs ks → IsK K F (kvs ++ [(Sum.inl n, w)]) (ks ++ [(n, y)])
  | _, _, .nil => .cons hw .nil
  | _, _, .cons h t => .cons h (IsK.snoc hw t)
theorem IsK.any (n : Int) : ∀ {kvs : List (Key × V)} {ks : List (Int × D)}, IsK K F kvs ks → (kvs.any fun kv => decide (kv.1 = (Sum.inl n : Key))) = (ks.any fun p => decide (p.1 = n))
  | _, _, .nil => rfl
  | _, _, .cons (k := k) h t => by
    rw [List.any_cons, List.any_cons, IsK.any n t]
    congr 1
    by_cases e : k = n
    · subst e
      simp
    · rw [decide_eq_false (show ¬ (Sum.inl k : Key) = Sum.inl n from fun q => e (Sum.inl.inj q)), decide_eq_false (show ¬ k = n from e)]
theorem IsK.put (n : Int) {w : V} {y : D} (hw : Is K F w y) {kvs : List (Key × V)} {ks : List (Int × D)} (h : IsK K F kvs ks) : IsK K F (putK kvs (Sum.inl n) w) (putD ks n y) := by
  unfold putK putD
  rw [h.any n]
  split
  · exact h.map n hw
  · exact h.snoc hw
theorem IsK.length : ∀ {kvs : List (Key × V)} {ks : List (Int × D)}, IsK K F kvs ks → kvs.length = ks.length
  | _, _, .nil => rfl
  | _, _, .cons h t => by rw [List.length_cons, List.length_cons, IsK.length t]
theorem dicD_inj : ∀ {ks ks' : List (Int × D)}, (ks.map fun p : Int × D => (PyData.int p.1, p.2)) = (ks'.map fun p : Int × D => (PyData.int p.1, p.2)) → ks = ks'
  | [], [], _ => rfl
  | [], _ :: _, h => by cases h
  | _ :: _, [], h => by cases h
  | (a, b) :: ks, (c, d) :: ks', h => by
    rw [List.map_cons, List.map_cons] at h
    injection h with h1 h2
    injection h1 with h3 h4
    injection h3 with h5
    rw [dicD_inj h2]
    have h4' : b = d := h4
    have h5' : a = c := h5
    rw [h5', h4']
theorem Is.dicI {v : V} {ks : List (Int × D)} (h : Is K F v (dicD ks)) : ∃ a kvs o, v = .ref a ∧ F a = some (.frz o (.dK kvs)) ∧ IsK K F kvs ks := by
  unfold dicD at h
  generalize e : (ks.map fun p : Int × D => (PyData.int p.1, p.2)) = m at h
  cases h with
  | dic h a =>
    rw [← dicD_inj e] at a
    obtain ⟨o, h⟩ := h
    exact ⟨_, _, o, rfl, h, a⟩
theorem rd_le {F H : Hp} {a : Addr} {u : HO} (e : Ex F H) (h : Rd F a u) : Rd H a u := Evl.ex_rd e h
end
section
variable {X : Cx} {S : Sto X.K} {Q : D → Prop} {D0 : De X.K} {e b o : Expr} {es : List Expr} {pos epos : Pos} {x : Str} {px apos cpos : Pos}
theorem wv_dnew {QS : Sv X.K → Prop} (q : QS (.odic [])) : WV X (.Dict [] [] pos) S QS := fun ow H σ Q' st k => by
  refine PE.we pe_dnewK fun p hp => ?_
  have ex : Ex H (upd H p (.dK [])) := Evl.Ex.new hp
  exact k _ _ (zw S.length ow H) _ q (st.zone ex) (.zone ex) ⟨p, [], rfl, zn_of hp (zw_new hp) upd_same, .nil⟩
/-- what an expression lays is locked -/
theorem we_lock {σ : L2.St} {H : Hp} {Q1 Q' : VK} (h : WE X e σ H Q1) (k : ∀ v H', Q1 v H' → ∃ d u, H' d = some u ∧ Mut (some u) ∧ ∀ od, Q' v (upd H' d (.frz od u))) : WE X e σ H Q' := ⟨fun pins s I => thn (h.r pins s I) fun u s1 ⟨v, H1, I1, r, q⟩ => by
  obtain ⟨d, u', hd, mu, kk⟩ := k v H1 q
  obtain ⟨od, I2⟩ := I1.lock hd mu
  exact ⟨v, _, I2, r, kk od⟩⟩
/-- {} as data -/
theorem w_dnew (q : Q (dicD [])) : W X (.Dict [] [] pos) S Q := fun ow H σ Q' st k => by
  refine we_lock (PE.we pe_dnewK (Q := fun v H' => ∃ p, v = .ref p ∧ H p = none ∧ H' = upd H p (.dK [])) fun p hp => ⟨p, rfl, hp, rfl⟩) fun v H' ⟨p, ev, hp, eH⟩ => ?_
  subst ev eH
  refine ⟨p, .dK [], upd_same, trivial, fun od => ?_⟩
  rw [upd_upd]
  have ex : Ex H (upd H p (.frz od (.dK []))) := Evl.Ex.new hp
  exact k _ _ (nw ow H) _ q (st.ext ex) (.ext ex) (.dic (ks := []) ⟨od, pt_of (nw_new hp) upd_same⟩ .nil)
/-- k in d -/
theorem w_inD (hu : X.A.units + 1 < cLine) (h : W X e S fun y => ∃ n : Int, y = .int n ∧ W X o S fun d => ∃ ks, d = dicD ks ∧ Q (.bool (lookD ks n).isSome)) (hm : behindInMarks .In o = false := by rfl) : W X (.Compare e [.In] [o] pos) S Q := fun ow H σ Q' st k => by
  refine PE.we (pe_cmp (pc_din hu pe_W pe_W) hm) ?_
  refine h ow H σ _ st fun y v ow1 H1 q st1 e1 i1 => ?_
  obtain ⟨n, rfl, q⟩ := q
  cases i1
  refine q ow1 H1 σ _ st1 fun d w ow2 H2 q2 st2 e2 i2 => ?_
  obtain ⟨ks, rfl, q2⟩ := q2
  obtain ⟨a, kvs, ob, rfl, rd', ik⟩ := i2.dicI
  have rd : Rd _ a (.dK kvs) := .inr ⟨ob, rd'⟩
  refine ⟨a, valV kvs (Sum.inl n), rfl, .inl ⟨kvs, Sum.inl n, rd_le pt_le rd, rfl, rfl⟩, ?_⟩
  rcases ik.look n with ⟨v, d, z1, z2, _⟩ | ⟨z1, z2⟩
  · rw [z1]
    rw [z2] at q2
    exact k _ _ ow2 H2 q2 st2 (e1.trans e2) (.bl _)
  · rw [z1]
    rw [z2] at q2
    exact k _ _ ow2 H2 q2 st2 (e1.trans e2) (.bl _)
theorem w_notinD (hu : X.A.units + 1 < cLine) (h : W X e S fun y => ∃ n : Int, y = .int n ∧ W X o S fun d => ∃ ks, d = dicD ks ∧ Q (.bool (!(lookD ks n).isSome))) (hm : behindInMarks .NotIn o = false := by rfl) : W X (.Compare e [.NotIn] [o] pos) S Q := fun ow H σ Q' st k => by
  refine PE.we (pe_cmp (pc_dnotin hu pe_W pe_W) hm) ?_
  refine h ow H σ _ st fun y v ow1 H1 q st1 e1 i1 => ?_
  obtain ⟨n, rfl, q⟩ := q
  cases i1
  refine q ow1 H1 σ _ st1 fun d w ow2 H2 q2 st2 e2 i2 => ?_
  obtain ⟨ks, rfl, q2⟩ := q2
  obtain ⟨a, kvs, ob, rfl, rd', ik⟩ := i2.dicI
  have rd : Rd _ a (.dK kvs) := .inr ⟨ob, rd'⟩
  refine ⟨a, valV kvs (Sum.inl n), rfl, .inl ⟨kvs, Sum.inl n, rd_le pt_le rd, rfl, rfl⟩, ?_⟩
  rcases ik.look n with ⟨v, d, z1, z2, _⟩ | ⟨z1, z2⟩
  · rw [z1]
    rw [z2] at q2
    exact k _ _ ow2 H2 q2 st2 (e1.trans e2) (.bl _)
  · rw [z1]
    rw [z2] at q2
    exact k _ _ ow2 H2 q2 st2 (e1.trans e2) (.bl _)
/-- d[k], it is there -/
theorem w_getD (hu : X.A.units + 1 < cLine) (h : W X o S fun d => ∃ ks, d = dicD ks ∧ W X e S fun y => ∃ (n : Int) (z : D), y = .int n ∧ lookD ks n = some z ∧ Q z) (hs : NoSl e := by intro _ _; rfl) : W X (.Subscript o e pos) S Q := fun ow H σ Q' st k => by
  refine PE.we (pe_dget hu pe_W pe_W hs) ?_
  refine h ow H σ _ st fun d w ow1 H1 q st1 e1 i1 => ?_
  obtain ⟨ks, rfl, q⟩ := q
  obtain ⟨a, kvs, ob, rfl, rd', ik⟩ := i1.dicI
  have rd : Rd _ a (.dK kvs) := .inr ⟨ob, rd'⟩
  refine q ow1 H1 σ _ st1 fun y v ow2 H2 q2 st2 e2 i2 => ?_
  obtain ⟨n, z, rfl, hz, q2⟩ := q2
  cases i2
  rcases ik.look n with ⟨v, d, z1, z2, iv⟩ | ⟨z1, z2⟩
  · rw [hz] at z2
    cases z2
    exact ⟨a, v, rfl, .inl ⟨kvs, Sum.inl n, rd_le (e2.fz.trans pt_le) rd, rfl, z1.symm⟩, k z v ow2 H2 q2 st2 (e1.trans e2) (iv.mono e2.fz)⟩
  · rw [hz] at z2
    cases z2
/-- the same upon a slot's own dict, by its name -/
theorem w_inO (i : Nat) {ks : List (Int × D)} (hu : X.A.units + 1 < cLine) (hS : S[i]? = some (.odic ks)) (h : W X e S fun y => ∃ n : Int, y = .int n ∧ Q (.bool (lookD ks n).isSome)) (hN : X.N[i]? = some x := by rfl) (hv : Vis X.env.scope x := by first | exact Or.inl rfl | exact Or.inr (Or.inl rfl) | exact Or.inr (Or.inr rfl))
    (hd : (x == ("__debug__" : Str)) = false := by decide) (hcd : (x == ("__classdict__" : Str)) = false := by decide) (hm : behindInMarks .In (.Name x px) = false := by rfl) : W X (.Compare e [.In] [.Name x px] pos) S Q := fun ow H σ Q' st k => by
  refine PE.we (pe_cmp (pc_din hu pe_W (pe_var hN hv hd hcd)) hm) ?_
  refine h ow H σ _ st fun y v ow1 H1 q st1 e1 i1 => ?_
  obtain ⟨n, rfl, q⟩ := q
  cases i1
  obtain ⟨l, kvs, ev, g, o, ik⟩ := st1.odic hS
  refine ⟨_, ev, l, valV kvs (Sum.inl n), rfl, DGet.k (k := Sum.inl n) g, ?_⟩
  rcases ik.look n with ⟨v, d, z1, z2, _⟩ | ⟨z1, z2⟩
  · rw [z1]
    rw [z2] at q
    exact k _ _ ow1 H1 q st1 e1 (.bl _)
  · rw [z1]
    rw [z2] at q
    exact k _ _ ow1 H1 q st1 e1 (.bl _)
theorem w_notinO (i : Nat) {ks : List (Int × D)} (hu : X.A.units + 1 < cLine) (hS : S[i]? = some (.odic ks)) (h : W X e S fun y => ∃ n : Int, y = .int n ∧ Q (.bool (!(lookD ks n).isSome))) (hN : X.N[i]? = some x := by rfl) (hv : Vis X.env.scope x := by first | exact Or.inl rfl | exact Or.inr (Or.inl rfl) | exact Or.inr (Or.inr rfl))
    (hd : (x == ("__debug__" : Str)) = false := by decide) (hcd : (x == ("__classdict__" : Str)) = false := by decide) (hm : behindInMarks .NotIn (.Name x px) = false := by rfl) : W X (.Compare e [.NotIn] [.Name x px] pos) S Q := fun ow H σ Q' st k => by
  refine PE.we (pe_cmp (pc_dnotin hu pe_W (pe_var hN hv hd hcd)) hm) ?_
  refine h ow H σ _ st fun y v ow1 H1 q st1 e1 i1 => ?_
  obtain ⟨n, rfl, q⟩ := q
  cases i1
  obtain ⟨l, kvs, ev, g, o, ik⟩ := st1.odic hS
  refine ⟨_, ev, l, valV kvs (Sum.inl n), rfl, DGet.k (k := Sum.inl n) g, ?_⟩
  rcases ik.look n with ⟨v, d, z1, z2, _⟩ | ⟨z1, z2⟩
  · rw [z1]
    rw [z2] at q
    exact k _ _ ow1 H1 q st1 e1 (.bl _)
  · rw [z1]
    rw [z2] at q
    exact k _ _ ow1 H1 q st1 e1 (.bl _)
theorem w_getO (i : Nat) {ks : List (Int × D)} (hu : X.A.units + 1 < cLine) (hS : S[i]? = some (.odic ks)) (h : W X e S fun y => ∃ (n : Int) (z : D), y = .int n ∧ lookD ks n = some z ∧ Q z) (hN : X.N[i]? = some x := by rfl) (hv : Vis X.env.scope x := by first | exact Or.inl rfl | exact Or.inr (Or.inl rfl) | exact Or.inr (Or.inr rfl))
    (hd : (x == ("__debug__" : Str)) = false := by decide) (hcd : (x == ("__classdict__" : Str)) = false := by decide) (hs : NoSl e := by intro _ _; rfl) : W X (.Subscript (.Name x px) e pos) S Q := fun ow H σ Q' st k => by
  refine PE.we (pe_dget hu (pe_var hN hv hd hcd) pe_W hs) ?_
  obtain ⟨l, kvs, ev, g, o, ik⟩ := st.odic hS
  refine ⟨_, ev, ?_⟩
  refine h ow H σ _ st fun y v ow1 H1 q st1 e1 i1 => ?_
  obtain ⟨n, z, rfl, hz, q⟩ := q
  cases i1
  obtain ⟨l1, kvs1, ev1, g1, o1, ik1⟩ := st1.odic hS
  rw [ev] at ev1
  cases ev1
  rcases ik1.look n with ⟨v, d, z1, z2, iv⟩ | ⟨z1, z2⟩
  · rw [hz] at z2
    cases z2
    exact ⟨l, v, rfl, .inl ⟨kvs1, Sum.inl n, .inl g1, rfl, z1.symm⟩, k z v ow1 H1 q st1 e1 iv⟩
  · rw [hz] at z2
    cases z2
/-- d[k] = e -/
theorem ws_putO (i : Nat) {ks : List (Int × D)} {b : Expr} {spos : Pos} (hu : X.A.units + 1 < cLine) (hS : S[i]? = some (.odic ks)) (hz : ks.length < 100000) (h : W X e S fun d => W X b S fun y => ∃ n : Int, y = .int n ∧ D0.nx (S.set i (.odic (putD ks n d)))) (hN : X.N[i]? = some x := by rfl) (hv : Vis X.env.scope x := by first | exact Or.inl rfl | exact Or.inr (Or.inl rfl) | exact Or.inr (Or.inr rfl))
    (hd : (x == ("__debug__" : Str)) = false := by decide) (hcd : (x == ("__classdict__" : Str)) = false := by decide) (hs : swapsWith e (some (.Subscript (.Name x px) b spos)) pos.line X.env = pure false := by rfl) : WS X (.Assign [.Subscript (.Name x px) b spos] e pos) S D0 := fun ow H σ E st m => by
  refine PS.we (ps_dput hu (pe_var hN hv hd hcd) pe_W pe_W hs) ?_
  refine h ow H σ _ st fun d v ow1 H1 q st1 e1 i1 => ?_
  obtain ⟨l, kvs, ev, g, o, ik⟩ := st1.odic hS
  refine ⟨_, ev, ?_⟩
  refine q ow1 H1 σ _ st1 fun y w ow2 H2 q2 st2 e2 i2 => ?_
  obtain ⟨n, rfl, q2⟩ := q2
  cases i2
  obtain ⟨l2, kvs2, ev2, g2, o2, ik2⟩ := st2.odic hS
  rw [ev] at ev2
  cases ev2
  have hi : i < S.length := (List.getElem?_eq_some_iff.mp hS).1
  refine ⟨l, _, rfl, DPut.k (k := Sum.inl n) g2 (Nat.lt_of_lt_of_le (by rw [ik2.length]; exact hz) (by decide : 100000 ≤ sizeLine)), ?_⟩
  obtain ⟨st3, e3⟩ := st2.upd (o := .dK (putK kvs2 (Sum.inl n) v)) o2 hi (some_ne g2) (odic_ok ev o2 (ik2.put n (i1.mono e2.fz)))
  exact m.nx _ ow2 _ _ q2 (by rw [List.length_set]) st3 (e1.trans (e2.trans e3))
end
end K3
end

section
set_option autoImplicit true
set_option Elab.async false
set_option linter.all false
set_option maxRecDepth 100000
set_option maxHeartbeats 1000000
/-! Loops and comprehensions by their targets' names. -/
namespace K3
open PySem PySem.Spec PyProof.Rows L2
theorem lts {n : Nat} {js : List Nat} (h : (js.all fun j => Nat.blt j n) = true) : ∀ j ∈ js, j < n := fun j hj => Nat.le_of_ble_eq_true (List.all_eq_true.mp h j hj)
theorem cts {vs js : List Nat} (h : (js.all fun j => vs.contains j) = true) : ∀ j ∈ js, j ∈ vs := fun j hj => by
  have z := List.all_eq_true.mp h j hj
  simpa using z
theorem bkl {X : Cx} {scope : Scope} {s : Shared} {H : Hp} {C : Addr} {cl : List (Str × Addr)} {fp : List Addr} {x : Str} (h : scope.names.lookup x = some .local) : (Bk X scope s H C cl fp).env.scope.names.lookup x = some .local := lookup_relabel_local h
section
variable {X : Cx} {S : Sto X.K} {c elt iter : Expr} {ifs : List Expr} {scope : Scope} {pos spos tp tq p1 p2 p3 : Pos} {x y z v : Str} {kk : Nat}
theorem wv_lcN (j : Nat) (own : List (Str × Nat)) {Q : Sv X.K → Prop} (nd : X.N.Nodup) (ok : BlkOk X.N X.env.scope scope own) (hid : Idle S (own.map (·.2)))
    (h : WI X (.Name x tp) iter S true fun ds => LcQ X scope elt ifs S false [j] (own.map (·.2)) ds fun acc => Q (.own acc)) (hc : X.calm = true := by rfl) (hN : X.N[j]? = some x := by rfl) (hx : scope.names.lookup x = some .local := by rfl)
    (hj : (([j] : List Nat).all fun j => Nat.blt j S.length) = true := by rfl) (hv : (([j] : List Nat).all fun j => (own.map (·.2)).contains j) = true := by rfl) (hs : ∀ x, foldedSetIterable iter X.env x = pure x := by intro _; rfl) : WV X (.ListComp elt [⟨.Name x tp, iter, ifs, 0⟩] scope pos) S Q :=
  wv_lc (m := false) (p := true) [j] own (.inr rfl) nd hc ok (List.cons_ne_nil _ _) (lts hj) (cts hv) hid (fun _ _ _ _ _ => pg_name (i := j) nd hN (.inl (bkl hx)) (.inr (bkl hx))) h hs
theorem wv_lcT2 (j k : Nat) (own : List (Str × Nat)) {Q : Sv X.K → Prop} {p : Bool} (nd : X.N.Nodup) (ok : BlkOk X.N X.env.scope scope own) (hid : Idle S (own.map (·.2)))
    (h : WI X (.Tuple [.Name x p1, .Name y p2] kk tp) iter S p fun ds => LcQ X scope elt ifs S true [j, k] (own.map (·.2)) ds fun acc => Q (.own acc)) (hc : X.calm = true := by rfl) (hN : X.N[j]? = some x := by rfl) (hN2 : X.N[k]? = some y := by rfl)
    (hx : scope.names.lookup x = some .local := by rfl) (hy : scope.names.lookup y = some .local := by rfl)
    (hj : (([j, k] : List Nat).all fun j => Nat.blt j S.length) = true := by rfl) (hv : (([j, k] : List Nat).all fun j => (own.map (·.2)).contains j) = true := by rfl) (hs : ∀ x, foldedSetIterable iter X.env x = pure x := by intro _; rfl) : WV X (.ListComp elt [⟨.Tuple [.Name x p1, .Name y p2] kk tp, iter, ifs, 0⟩] scope pos) S Q :=
  wv_lc (m := true) (p := p) [j, k] own (.inl rfl) nd hc ok (List.cons_ne_nil _ _) (lts hj) (cts hv) hid (fun _ _ _ _ _ => pg_tup hc (pgs1 nd hN (.inl (bkl hx)) (.inr (bkl hx)) (pgs1 nd hN2 (.inl (bkl hy)) (.inr (bkl hy)) pgs0))) h hs
theorem wv_lcT3 (j k l : Nat) (own : List (Str × Nat)) {Q : Sv X.K → Prop} {p : Bool} (nd : X.N.Nodup) (ok : BlkOk X.N X.env.scope scope own) (hid : Idle S (own.map (·.2)))
    (h : WI X (.Tuple [.Name x p1, .Name y p2, .Name z p3] kk tp) iter S p fun ds => LcQ X scope elt ifs S true [j, k, l] (own.map (·.2)) ds fun acc => Q (.own acc)) (hc : X.calm = true := by rfl) (hN : X.N[j]? = some x := by rfl) (hN2 : X.N[k]? = some y := by rfl) (hN3 : X.N[l]? = some z := by rfl)
    (hx : scope.names.lookup x = some .local := by rfl) (hy : scope.names.lookup y = some .local := by rfl) (hz : scope.names.lookup z = some .local := by rfl)
    (hj : (([j, k, l] : List Nat).all fun j => Nat.blt j S.length) = true := by rfl) (hv : (([j, k, l] : List Nat).all fun j => (own.map (·.2)).contains j) = true := by rfl) (hs : ∀ x, foldedSetIterable iter X.env x = pure x := by intro _; rfl) : WV X (.ListComp elt [⟨.Tuple [.Name x p1, .Name y p2, .Name z p3] kk tp, iter, ifs, 0⟩] scope pos) S Q :=
  wv_lc (m := true) (p := p) [j, k, l] own (.inl rfl) nd hc ok (List.cons_ne_nil _ _) (lts hj) (cts hv) hid (fun _ _ _ _ _ => pg_tup hc (pgs1 nd hN (.inl (bkl hx)) (.inr (bkl hx)) (pgs1 nd hN2 (.inl (bkl hy)) (.inr (bkl hy)) (pgs1 nd hN3 (.inl (bkl hz)) (.inr (bkl hz)) pgs0)))) h hs
/-- v = [.. for x in ..] on one line -/
theorem ws_lcN {D0 : De X.K} (i j : Nat) (own : List (Str × Nat)) (nd : X.N.Nodup) (ok : BlkOk X.N X.env.scope scope own) (hid : Idle S (own.map (·.2)))
    (h : WI X (.Name x tp) iter S true fun ds => LcQ X scope elt ifs S false [j] (own.map (·.2)) ds fun acc => D0.nx (S.set i (.own acc))) (hsw : swapsWith (.ListComp elt [⟨.Name x tp, iter, ifs, 0⟩] scope pos) (some (.Name v tq)) spos.line X.env = pure true := by exact sw_true rfl rfl rfl (by decide +kernel))
    (hc : X.calm = true := by rfl) (hN : X.N[j]? = some x := by rfl) (hx : scope.names.lookup x = some .local := by rfl) (hi : Nat.blt i S.length = true := by rfl) (hNi : X.N[i]? = some v := by rfl) (hvl : X.env.scope.names.lookup v = some .local := by rfl)
    (hj : (([j] : List Nat).all fun j => Nat.blt j S.length) = true := by rfl) (hv : (([j] : List Nat).all fun j => (own.map (·.2)).contains j) = true := by rfl) (hs : ∀ x, foldedSetIterable iter X.env x = pure x := by intro _; rfl) : WS X (.Assign [.Name v tq] (.ListComp elt [⟨.Name x tp, iter, ifs, 0⟩] scope pos) spos) S D0 :=
  ws_lc (m := false) (p := true) i [j] own (.inr rfl) nd hc (Nat.le_of_ble_eq_true hi) ok (List.cons_ne_nil _ _) (lts hj) (cts hv) hid (fun _ _ _ _ _ => pg_name (i := j) nd hN (.inl (bkl hx)) (.inr (bkl hx))) h hsw hNi hvl hs
theorem ws_lcT3 {D0 : De X.K} (i j k l : Nat) (own : List (Str × Nat)) {p : Bool} (nd : X.N.Nodup) (ok : BlkOk X.N X.env.scope scope own) (hid : Idle S (own.map (·.2)))
    (h : WI X (.Tuple [.Name x p1, .Name y p2, .Name z p3] kk tp) iter S p fun ds => LcQ X scope elt ifs S true [j, k, l] (own.map (·.2)) ds fun acc => D0.nx (S.set i (.own acc))) (hsw : swapsWith (.ListComp elt [⟨.Tuple [.Name x p1, .Name y p2, .Name z p3] kk tp, iter, ifs, 0⟩] scope pos) (some (.Name v tq)) spos.line X.env = pure true := by exact sw_true rfl rfl rfl (by decide +kernel))
    (hc : X.calm = true := by rfl) (hN : X.N[j]? = some x := by rfl) (hN2 : X.N[k]? = some y := by rfl) (hN3 : X.N[l]? = some z := by rfl) (hx : scope.names.lookup x = some .local := by rfl) (hy : scope.names.lookup y = some .local := by rfl) (hz : scope.names.lookup z = some .local := by rfl) (hi : Nat.blt i S.length = true := by rfl) (hNi : X.N[i]? = some v := by rfl) (hvl : X.env.scope.names.lookup v = some .local := by rfl)
    (hj : (([j, k, l] : List Nat).all fun j => Nat.blt j S.length) = true := by rfl) (hv : (([j, k, l] : List Nat).all fun j => (own.map (·.2)).contains j) = true := by rfl) (hs : ∀ x, foldedSetIterable iter X.env x = pure x := by intro _; rfl) : WS X (.Assign [.Name v tq] (.ListComp elt [⟨.Tuple [.Name x p1, .Name y p2, .Name z p3] kk tp, iter, ifs, 0⟩] scope pos) spos) S D0 :=
  ws_lc (m := true) (p := p) i [j, k, l] own (.inl rfl) nd hc (Nat.le_of_ble_eq_true hi) ok (List.cons_ne_nil _ _) (lts hj) (cts hv) hid (fun _ _ _ _ _ => pg_tup hc (pgs1 nd hN (.inl (bkl hx)) (.inr (bkl hx)) (pgs1 nd hN2 (.inl (bkl hy)) (.inr (bkl hy)) (pgs1 nd hN3 (.inl (bkl hz)) (.inr (bkl hz)) pgs0)))) h hsw hNi hvl hs

/-! ### for -/
/-- what a loop over ds asks -/
def ForQ (X : Cx) (body : List Stmt) (S : Sto X.K) (D0 : De X.K) (m : Bool) (js : List Nat) (ds : List D) : Prop := ∃ Pv : Nat → Sto X.K → Prop, Pv 0 S ∧ (∀ (i : Nat) (d : D) (S' : Sto X.K), ds[i]? = some d → S'.length = S.length → Pv i S' →
  ∃ S2, inT m js d S' S2 ∧ WSs X body S2 { D0 with nx := Pv (i + 1), ct := Pv (i + 1), bk := D0.nx }) ∧ ∀ S', S'.length = S.length → Pv ds.length S' → D0.nx S'
theorem ws_forN {D0 : De X.K} {body : List Stmt} (j : Nat) (nd : X.N.Nodup) (h : WI X (.Name x tp) iter S true fun ds => ForQ X body S D0 false [j] ds) (hc : X.calm = true := by rfl) (hp : PassesOwn (model X.prog X.w) X.A X.env X.xe := by exact PassesOwn.never)
    (hN : X.N[j]? = some x := by rfl) (hx : Loc X.env.scope x := by first | exact Or.inl rfl | exact Or.inr rfl) (hf : X.fn x = true ∨ X.env.scope.names.lookup x = some .local := by first | exact .inl rfl | exact .inr rfl)
    (hj : (([j] : List Nat).all fun j => Nat.blt j S.length) = true := by rfl) (hsf : ∀ x, foldedSetIterable iter X.env x = pure x := by intro _; rfl) : WS X (.For (.Name x tp) iter body [] pos) S D0 :=
  ws_for (m := false) (p := true) [j] hp hc (.inr rfl) (pg_name (i := j) nd hN hx hf) (List.cons_ne_nil _ _) (lts hj) h hsf
theorem ws_forT2 {D0 : De X.K} {body : List Stmt} {p : Bool} (j k : Nat) (nd : X.N.Nodup) (h : WI X (.Tuple [.Name x p1, .Name y p2] kk tp) iter S p fun ds => ForQ X body S D0 true [j, k] ds) (hc : X.calm = true := by rfl) (hp : PassesOwn (model X.prog X.w) X.A X.env X.xe := by exact PassesOwn.never)
    (hN : X.N[j]? = some x := by rfl) (hx : Loc X.env.scope x := by first | exact Or.inl rfl | exact Or.inr rfl) (hf : X.fn x = true ∨ X.env.scope.names.lookup x = some .local := by first | exact .inl rfl | exact .inr rfl)
    (hN2 : X.N[k]? = some y := by rfl) (hy : Loc X.env.scope y := by first | exact Or.inl rfl | exact Or.inr rfl) (hf2 : X.fn y = true ∨ X.env.scope.names.lookup y = some .local := by first | exact .inl rfl | exact .inr rfl)
    (hj : (([j, k] : List Nat).all fun j => Nat.blt j S.length) = true := by rfl) (hsf : ∀ x, foldedSetIterable iter X.env x = pure x := by intro _; rfl) : WS X (.For (.Tuple [.Name x p1, .Name y p2] kk tp) iter body [] pos) S D0 :=
  ws_for (m := true) (p := p) [j, k] hp hc (.inl rfl) (pg_tup hc (pgs1 nd hN hx hf (pgs1 nd hN2 hy hf2 pgs0))) (List.cons_ne_nil _ _) (lts hj) h hsf
theorem ws_forT3 {D0 : De X.K} {body : List Stmt} {p : Bool} (j k l : Nat) (nd : X.N.Nodup) (h : WI X (.Tuple [.Name x p1, .Name y p2, .Name z p3] kk tp) iter S p fun ds => ForQ X body S D0 true [j, k, l] ds) (hc : X.calm = true := by rfl) (hp : PassesOwn (model X.prog X.w) X.A X.env X.xe := by exact PassesOwn.never)
    (hN : X.N[j]? = some x := by rfl) (hx : Loc X.env.scope x := by first | exact Or.inl rfl | exact Or.inr rfl) (hf : X.fn x = true ∨ X.env.scope.names.lookup x = some .local := by first | exact .inl rfl | exact .inr rfl)
    (hN2 : X.N[k]? = some y := by rfl) (hy : Loc X.env.scope y := by first | exact Or.inl rfl | exact Or.inr rfl) (hf2 : X.fn y = true ∨ X.env.scope.names.lookup y = some .local := by first | exact .inl rfl | exact .inr rfl)
    (hN3 : X.N[l]? = some z := by rfl) (hz : Loc X.env.scope z := by first | exact Or.inl rfl | exact Or.inr rfl) (hf3 : X.fn z = true ∨ X.env.scope.names.lookup z = some .local := by first | exact .inl rfl | exact .inr rfl)
    (hj : (([j, k, l] : List Nat).all fun j => Nat.blt j S.length) = true := by rfl) (hsf : ∀ x, foldedSetIterable iter X.env x = pure x := by intro _; rfl) : WS X (.For (.Tuple [.Name x p1, .Name y p2, .Name z p3] kk tp) iter body [] pos) S D0 :=
  ws_for (m := true) (p := p) [j, k, l] hp hc (.inl rfl) (pg_tup hc (pgs1 nd hN hx hf (pgs1 nd hN2 hy hf2 (pgs1 nd hN3 hz hf3 pgs0)))) (List.cons_ne_nil _ _) (lts hj) h hsf
/-- a loop whose store is a function of what has been gone through -/
theorem forQ_map {α : Type} {D0 : De X.K} {body : List Stmt} {m : Bool} {js : List Nat} (xs : List α) (enc : α → D) (St : List α → Sto X.K → Prop) (h0 : St [] S)
    (h : ∀ (pre : List α) (a : α) (post : List α) (S' : Sto X.K), xs = pre ++ a :: post → S'.length = S.length → St pre S' → ∃ S2, inT m js (enc a) S' S2 ∧ WSs X body S2 { D0 with nx := St (pre ++ [a]), ct := St (pre ++ [a]), bk := D0.nx })
    (q : ∀ S', S'.length = S.length → St xs S' → D0.nx S') : ForQ X body S D0 m js (xs.map enc) := by
  refine ⟨fun i => St (xs.take i), h0, fun i d S' hd hl hP => ?_, fun S' hl hP => ?_⟩
  · rw [List.getElem?_map] at hd
    cases e : xs[i]? with
    | none =>
      rw [e] at hd
      cases hd
    | some a =>
      rw [e] at hd
      cases hd
      have hlt : i < xs.length := (List.getElem?_eq_some_iff.mp e).1
      have e2 : xs = xs.take i ++ a :: xs.drop (i + 1) := by
        have e3 : xs[i] = a := (List.getElem?_eq_some_iff.mp e).2
        rw [← e3]
        exact (by rw [List.getElem_cons_drop, List.take_append_drop] : xs = xs.take i ++ xs[i] :: xs.drop (i + 1))
      obtain ⟨S2, it, hw⟩ := h (xs.take i) a (xs.drop (i + 1)) S' e2 hl hP
      refine ⟨S2, it, ?_⟩
      have e4 : xs.take (i + 1) = xs.take i ++ [a] := by
        rw [List.take_add_one, e]
        rfl
      show WSs X body S2 { D0 with nx := St (xs.take (i + 1)), ct := St (xs.take (i + 1)), bk := D0.nx }
      rw [e4]
      exact hw
  · rw [List.length_map, List.take_length] at hP
    exact q S' hl hP

/-! ### unpacking -/
theorem ws_unp2 {D0 : De X.K} {e : Expr} (j k : Nat) (nd : X.N.Nodup) (h : W X e S fun d => ∃ a b, d = .tuple [a, b] ∧ D0.nx (setAll [j, k] [.dat a, .dat b] S)) (hc : X.calm = true := by rfl)
    (hN : X.N[j]? = some x := by rfl) (hx : Loc X.env.scope x := by first | exact Or.inl rfl | exact Or.inr rfl) (hf : X.fn x = true ∨ X.env.scope.names.lookup x = some .local := by first | exact .inl rfl | exact .inr rfl)
    (hN2 : X.N[k]? = some y := by rfl) (hy : Loc X.env.scope y := by first | exact Or.inl rfl | exact Or.inr rfl) (hf2 : X.fn y = true ∨ X.env.scope.names.lookup y = some .local := by first | exact .inl rfl | exact .inr rfl)
    (hj : (([j, k] : List Nat).all fun j => Nat.blt j S.length) = true := by rfl) (hs : swapsWithSole [.Tuple [.Name x p1, .Name y p2] kk tp] e pos.line X.env = pure false := by rfl) (hw : swappedStores [.Tuple [.Name x p1, .Name y p2] kk tp] e X.env = pure none := by rfl) :
    WS X (.Assign [.Tuple [.Name x p1, .Name y p2] kk tp] e pos) S D0 :=
  ws_unp [j, k] hc (pgs1 nd hN hx hf (pgs1 nd hN2 hy hf2 pgs0)) (lts hj) (h.mono fun d ⟨a, b, ed, q⟩ => ⟨[a, b], ed, rfl, q⟩) (hs := hs) (hw := hw)
theorem ws_unp3 {D0 : De X.K} {e : Expr} (j k l : Nat) (nd : X.N.Nodup) (h : W X e S fun d => ∃ a b c, d = .tuple [a, b, c] ∧ D0.nx (setAll [j, k, l] [.dat a, .dat b, .dat c] S)) (hc : X.calm = true := by rfl)
    (hN : X.N[j]? = some x := by rfl) (hx : Loc X.env.scope x := by first | exact Or.inl rfl | exact Or.inr rfl) (hf : X.fn x = true ∨ X.env.scope.names.lookup x = some .local := by first | exact .inl rfl | exact .inr rfl)
    (hN2 : X.N[k]? = some y := by rfl) (hy : Loc X.env.scope y := by first | exact Or.inl rfl | exact Or.inr rfl) (hf2 : X.fn y = true ∨ X.env.scope.names.lookup y = some .local := by first | exact .inl rfl | exact .inr rfl)
    (hN3 : X.N[l]? = some z := by rfl) (hz : Loc X.env.scope z := by first | exact Or.inl rfl | exact Or.inr rfl) (hf3 : X.fn z = true ∨ X.env.scope.names.lookup z = some .local := by first | exact .inl rfl | exact .inr rfl)
    (hj : (([j, k, l] : List Nat).all fun j => Nat.blt j S.length) = true := by rfl) (hs : swapsWithSole [.Tuple [.Name x p1, .Name y p2, .Name z p3] kk tp] e pos.line X.env = pure false := by rfl) (hw : swappedStores [.Tuple [.Name x p1, .Name y p2, .Name z p3] kk tp] e X.env = pure none := by rfl) :
    WS X (.Assign [.Tuple [.Name x p1, .Name y p2, .Name z p3] kk tp] e pos) S D0 :=
  ws_unp [j, k, l] hc (pgs1 nd hN hx hf (pgs1 nd hN2 hy hf2 (pgs1 nd hN3 hz hf3 pgs0))) (lts hj) (h.mono fun d ⟨a, b, c, ed, q⟩ => ⟨[a, b, c], ed, rfl, q⟩) (hs := hs) (hw := hw)
/-- x = e -/
theorem ws_set {D0 : De X.K} {e : Expr} (i : Nat) (nd : X.N.Nodup) (h : W X e S fun d => D0.nx (S.set i (.dat d))) (hi : Nat.blt i S.length = true := by rfl) (hN : X.N[i]? = some x := by rfl) (hx : Loc X.env.scope x := by first | exact Or.inl rfl | exact Or.inr rfl)
    (hs : swapsWith e (some (.Name x tp)) pos.line X.env = pure false := by rfl) (hf : X.fn x = true ∨ X.env.scope.names.lookup x = some .local := by first | exact .inl rfl | exact .inr rfl) : WS X (.Assign [.Name x tp] e pos) S D0 :=
  ws_asg i nd (Nat.le_of_ble_eq_true hi) (wv_dat h) hN hx hs hf
theorem ws_setV {D0 : De X.K} {e : Expr} (i : Nat) (nd : X.N.Nodup) (h : WV X e S fun s => D0.nx (S.set i s)) (hi : Nat.blt i S.length = true := by rfl) (hN : X.N[i]? = some x := by rfl) (hx : Loc X.env.scope x := by first | exact Or.inl rfl | exact Or.inr rfl)
    (hs : swapsWith e (some (.Name x tp)) pos.line X.env = pure false := by rfl) (hf : X.fn x = true ∨ X.env.scope.names.lookup x = some .local := by first | exact .inl rfl | exact .inr rfl) : WS X (.Assign [.Name x tp] e pos) S D0 :=
  ws_asg i nd (Nat.le_of_ble_eq_true hi) h hN hx hs hf
/-- a comprehension, frozen at once -/
theorem w_lcN (j : Nat) (own : List (Str × Nat)) {Q : D → Prop} (nd : X.N.Nodup) (ok : BlkOk X.N X.env.scope scope own) (hid : Idle S (own.map (·.2)))
    (h : WI X (.Name x tp) iter S true fun ds => LcQ X scope elt ifs S false [j] (own.map (·.2)) ds fun acc => Q (.list acc)) (hc : X.calm = true := by rfl) (hN : X.N[j]? = some x := by rfl) (hx : scope.names.lookup x = some .local := by rfl)
    (hj : (([j] : List Nat).all fun j => Nat.blt j S.length) = true := by rfl) (hv : (([j] : List Nat).all fun j => (own.map (·.2)).contains j) = true := by rfl) (hs : ∀ x, foldedSetIterable iter X.env x = pure x := by intro _; rfl) : W X (.ListComp elt [⟨.Name x tp, iter, ifs, 0⟩] scope pos) S Q :=
  w_ofV (wv_lcN j own nd ok hid (fun ow H σ R st k => h ow H σ R st fun ds J ow' H' q => k ds J ow' H' ⟨q.1, q.2.choose, q.2.choose_spec.1, q.2.choose_spec.2.1, fun acc a b => ⟨acc, rfl, q.2.choose_spec.2.2 acc a b⟩⟩) hc hN hx hj hv hs)
end
end K3
end

section
set_option autoImplicit true
set_option Elab.async false
set_option linter.all false
set_option maxRecDepth 100000
set_option maxHeartbeats 1000000
/-! sorted, over data. -/
namespace K3
open PySem PySem.Spec PyProof.Rows L2
section
variable {X : Cx} {S : Sto X.K} {Q : D → Prop} {e : Expr} {pos p : Pos}
theorem each_of {K : PySem.W.Frag} {F : Hp} {β : Type} (enc : β → D) : ∀ {vs : List V} {us : List Value} {bs : List β}, Vals vs us → IsA K F vs (bs.map enc) → PySem.W.EachIs (fun u b => ∃ v, RelV v u ∧ Is K F v (enc b)) us bs
  | [], us, [], r, _ => by
    cases r
    exact .nil
  | [], us, b :: bs, r, a => by
    have a' : IsA K F [] (enc b :: bs.map enc) := a
    cases a'
  | v :: vs, us, [], r, a => by
    have a' : IsA K F (v :: vs) [] := a
    cases a'
  | v :: vs, us, b :: bs, r, a => by
    have a' : IsA K F (v :: vs) (enc b :: bs.map enc) := a
    cases a' with
    | cons h t =>
      cases r with
      | cons r1 r2 => exact .cons ⟨v, r1, h⟩ (each_of enc r2 t)
theorem of_each {K : PySem.W.Frag} {F : Hp} {β : Type} (enc : β → D) : ∀ {us : List Value} {bs : List β}, PySem.W.EachIs (fun u b => ∃ v, RelV v u ∧ Is K F v (enc b)) us bs → ∃ vs, Vals vs us ∧ IsA K F vs (bs.map enc)
  | _, _, .nil => ⟨[], .nil, .nil⟩
  | _, _, .cons ⟨v, r, h⟩ t => by
    obtain ⟨vs, r2, a2⟩ := of_each enc t
    exact ⟨v :: vs, .cons r r2, .cons h a2⟩
theorem cd_sortedD {β : Type} (enc : β → D) (bs : List β) (hal : PySem.W.AllAlike (bs.map enc)) (hk : PySem.W.Sortable (bs.map enc)) (nd : ∀ b ∈ bs, (enc b).hasDict = false) (hz : bs.length ≤ sizeLine) (hu : ∀ b, b ∈ bs → X.A.units + 2 + (enc b).depth < cLine)
    (q : Q (.list ((bs.mergeSort (PySem.W.dataLe false enc)).map enc))) : CD X (.builtin "sorted") [.list (bs.map enc)] Q := fun F H xs Q' f a k pins s σ us I r => by
  cases a with
  | cons h t =>
    cases t
    cases h with
    | @lst l vs _ p a =>
      obtain ⟨its, rv, hl, hzz⟩ := I.list (SqL.of (f _ _ p))
      rw [Vals.ref1 r]
      have e1 := each_of enc rv a
      have er : PySem.W.EachIs (fun u b => ∃ as, Reads s.heap u (enc b) as) its bs := by
        have e2 : ∀ {us : List Value} {cs : List β}, (∀ b ∈ cs, b ∈ bs) → PySem.W.EachIs (fun u b => ∃ v, RelV v u ∧ Is X.K F v (enc b)) us cs → PySem.W.EachIs (fun u b => ∃ as, Reads s.heap u (enc b) as) us cs := by
          intro us cs hm hh
          induction hh with
          | nil => exact .nil
          | cons h1 h2 ih =>
            obtain ⟨v, r1, i1⟩ := h1
            exact .cons (Dp.reads I _ v _ ((i1.mono f).dp (nd _ (hm _ List.mem_cons_self))) r1) (ih fun b hb => hm b (List.mem_cons_of_mem _ hb))
        exact e2 (fun _ h => h) e1
      refine PySem.W.sorted_data (l := l) hl.isList e1 er hal hk hz hu fun out ho eo => ?_
      obtain ⟨ws, rw', aw⟩ := of_each enc eo
      obtain ⟨ep, he'⟩ := PyProof.Rows.sortedAll_at s.heap its out.toArray
      have hlen : ws.length ≤ sizeLine := by rw [rw'.length, ho]; exact hz
      refine ⟨.ref _, upd H (s.heap.objs.size + 1) (.lst ws), I.laid (t' := s.toks) (fun _ _ => PyProof.Rows.sortedAll_old) (Nat.le_succ _) ⟨hlen, out, ep, rw', he'⟩, rfl, ?_⟩
      exact k.lst f (I.hok.fresh (Nat.le_succ _)) q aw
end
end K3
end

section
set_option autoImplicit true
set_option Elab.async false
set_option linter.all false
set_option maxRecDepth 100000
set_option maxHeartbeats 1000000
/-! Items of a slot's own list; the bag of the law's draws; defs that take the bag. -/
namespace K3
open PySem PySem.Spec PyProof.Rows L2

/-! ### slots that hold one list of their own -/
/-- .. at a known place -/
def Sv.ownA {K : PySem.W.Frag} (b : Addr) (xs : List D) : Sv K := ⟨fun F G v => v = some (.ref b) ∧ ∃ vs, G b = some (.lst vs) ∧ IsA K F vs xs, fun e g ⟨h1, vs, h2, h3⟩ => ⟨h1, vs, g _ _ h2, h3.mono e⟩⟩
structure OwnL {K : PySem.W.Frag} (s : List D → Sv K) : Prop where
  get : ∀ {F G : Hp} {v : Option V} {xs : List D}, (s xs).ok F G v → ∃ l vs, v = some (.ref l) ∧ G l = some (.lst vs) ∧ IsA K F vs xs
  put : ∀ {F G G' : Hp} {l : Addr} {xs ys : List D} {ws : List V}, (s xs).ok F G (some (.ref l)) → G' l = some (.lst ws) → IsA K F ws ys → (s ys).ok F G' (some (.ref l))
theorem OwnL.own {K : PySem.W.Frag} : OwnL (K := K) Sv.own := ⟨fun h => h, fun _ h a => ⟨_, _, rfl, h, a⟩⟩
theorem OwnL.ownA {K : PySem.W.Frag} {b : Addr} : OwnL (K := K) (Sv.ownA b) := ⟨fun ⟨h, vs, g, a⟩ => ⟨b, vs, h, g, a⟩, fun ⟨h, vs, g, a⟩ q r => by
  cases h
  exact ⟨rfl, _, q, r⟩⟩
section
variable {K : PySem.W.Frag} {ow : Addr → Nat} {H : Hp} {σ : L2.St} {S : Sto K} {s : List D → Sv K}
theorem Std.ownL (ol : OwnL s) (st : Std K ow H σ S) {i : Nat} {xs : List D} (h : S[i]? = some (s xs)) : ∃ l vs, σ[i]? = some (some (.ref l)) ∧ H l = some (.lst vs) ∧ ow l = i + 1 ∧ IsA K (fz ow H) vs xs := by
  obtain ⟨l, vs, e, g, q⟩ := ol.get (st.sl i _ h)
  obtain ⟨g1, g2⟩ := pt_some g
  refine ⟨l, vs, ?_, g1, g2, q⟩
  cases r : σ[i]? with
  | none =>
    rw [r] at e
    cases e
  | some z =>
    rw [r] at e
    have e' : z = some (.ref l) := e
    rw [e']
theorem ownL_ok (ol : OwnL s) (st : Std K ow H σ S) {i : Nat} {l : Addr} {ws : List V} {xs ys : List D} (h : S[i]? = some (s xs)) (e : σ[i]? = some (some (.ref l))) (ho : ow l = i + 1) (a : IsA K (fz ow H) ws ys) : (s ys).ok (fz ow H) (pt ow (i + 1) (L2.upd H l (.lst ws))) (σ[i]?.join) := by
  have z := st.sl i _ h
  rw [e] at z ⊢
  exact ol.put z (pt_of ho upd_same) a
end
def rGetL : V → V → Hp → VK → Prop := fun o i H Q => ∃ p xs k j v, o = .ref p ∧ i = .int k ∧ H p = some (.lst xs) ∧ k = ((j : Nat) : Int) ∧ xs[j]? = some v ∧ Q v H
theorem get_list {X : Cx} : PGet X rGetL := by
  intro pins s σ H o i ov iv Q I ro ri h
  obtain ⟨p, xs, k, j, v, rfl, rfl, hp, rfl, hv, q⟩ := h
  cases ro
  obtain ⟨t, rfl⟩ := ri
  obtain ⟨its, n, r, ho, hz⟩ := I.lst hp
  obtain ⟨w, ew, rw'⟩ := r.get hv
  have hn := line63
  have hlt : j < xs.length := (List.getElem?_eq_some_iff.mp hv).1
  have hjz : j ≤ sizeLine := Nat.le_trans (Nat.le_of_lt hlt) hz
  refine wpAny_getItem_list (x := w) (items := its.toArray) ⟨_, ho, rfl, n, rfl⟩ (by omega) (by omega) ?_ ⟨v, H, I, rw', q⟩
  rw [Int.toNat_natCast]
  simpa using ew
theorem ixN_nat {n j : Nat} (h : j < n) : ixN n (j : Int) = some j := by
  unfold ixN
  rw [if_pos (by omega), if_pos (by omega), Int.toNat_natCast]
section
variable {X : Cx} {S : Sto X.K} {Q : D → Prop} {D0 : De X.K} {e e2 o : Expr} {es : List Expr} {pos epos spos : Pos} {x : Str} {px : Pos} {sv : List D → Sv X.K}
/-- x[e], x a slot's own list -/
theorem w_ixO (i : Nat) {xs : List D} (ol : OwnL sv) (hS : S[i]? = some (sv xs)) (h : W X e S fun y => ∃ (k : Nat) (z : D), y = .int (k : Int) ∧ xs[k]? = some z ∧ Q z) (hN : X.N[i]? = some x := by rfl) (hv : Vis X.env.scope x := by first | exact Or.inl rfl | exact Or.inr (Or.inl rfl) | exact Or.inr (Or.inr rfl))
    (hd : (x == ("__debug__" : Str)) = false := by decide) (hcd : (x == ("__classdict__" : Str)) = false := by decide) (hs : PlainIx e := by intro _ _; rfl) : W X (.Subscript (.Name x px) e pos) S Q := fun ow H σ Q' st k => by
  refine PE.we (pe_ix ix_list (pe_var hN hv hd hcd) pe_W hs) ?_
  obtain ⟨l, vs, ev, g, o, a⟩ := st.ownL ol hS
  refine ⟨_, ev, ?_⟩
  refine h ow H σ _ st fun y v ow1 H1 q st1 e1 i1 => ?_
  obtain ⟨n, z, rfl, hz, q⟩ := q
  cases i1
  obtain ⟨l1, vs1, ev1, g1, o1, a1⟩ := st1.ownL ol hS
  rw [ev] at ev1
  cases ev1
  obtain ⟨w, ew, iw⟩ := a1.get hz
  exact ⟨_, _, _, w, rfl, rfl, SqL.of g1, atI_nat ew, k z w ow1 H1 q st1 e1 iw⟩
/-- x[e2] = e -/
theorem ws_itemO (i : Nat) {xs : List D} (ol : OwnL sv) (hS : S[i]? = some (sv xs)) (h : W X e S fun d => W X e2 S fun y => ∃ k : Nat, y = .int (k : Int) ∧ k < xs.length ∧ D0.nx (S.set i (sv (xs.set k d)))) (hN : X.N[i]? = some x := by rfl) (hv : Vis X.env.scope x := by first | exact Or.inl rfl | exact Or.inr (Or.inl rfl) | exact Or.inr (Or.inr rfl))
    (hd : (x == ("__debug__" : Str)) = false := by decide) (hcd : (x == ("__classdict__" : Str)) = false := by decide) (hs : swapsWithSole [.Subscript (.Name x px) e2 spos] e pos.line X.env = pure false := by rfl)
    (hw : swappedStores [.Subscript (.Name x px) e2 spos] e X.env = pure none := by rfl)
    (h1 : (assignEach [.Subscript (.Name x px) e2 spos] X.env).map (·.2) = [assign (.Subscript (.Name x px) e2 spos) X.env] := by rfl)
    (ha : ∀ v, assign (.Subscript (.Name x px) e2 spos) X.env v = (do
      let ov ← holding [v] (eval (.Name x px) X.env)
      let iv ← holding [v, ov] (eval e2 X.env)
      standAt spos
      holding [v, ov, iv] (setItem ov iv v)
      release [v, ov, iv] []) := by intro _; rfl) : WS X (.Assign [.Subscript (.Name x px) e2 spos] e pos) S D0 := fun ow H σ E st m => by
  refine PS.we (ps_asg pe_W (pg_sub (pe_var hN hv hd hcd) pe_W set_list ha) hs hw h1) ?_
  refine h ow H σ _ st fun d v ow1 H1 q st1 e1 i1 => ?_
  obtain ⟨l, vs, ev, g, o, a⟩ := st1.ownL ol hS
  refine ⟨_, ev, ?_⟩
  refine q ow1 H1 σ _ st1 fun y w ow2 H2 q2 st2 e2' i2 => ?_
  obtain ⟨k, rfl, hk, q2⟩ := q2
  cases i2
  obtain ⟨l2, vs2, ev2, g2, o2, a2⟩ := st2.ownL ol hS
  rw [ev] at ev2
  cases ev2
  have hi : i < S.length := (List.getElem?_eq_some_iff.mp hS).1
  refine ⟨l, vs2, _, k, rfl, rfl, g2, ixN_nat (by rw [a2.length]; exact hk), ?_⟩
  obtain ⟨st3, e3⟩ := st2.upd (o := .lst (vs2.set k v)) o2 hi (some_ne g2) (ownL_ok ol st2 hS ev o2 (a2.set (i1.mono e2'.fz) k))
  exact m.nx _ ow2 _ _ q2 (by rw [List.length_set]) st3 (e1.trans (e2'.trans e3))
/-- x[e2] += e (ints) -/
theorem ws_augO (i : Nat) {op : Operator} {f : Int → Int → Int} {xs : List D} (ho : PIp X op (ipI f)) (ol : OwnL sv) (hS : S[i]? = some (sv xs)) (h : W X e2 S fun y => ∃ (k : Nat) (n : Int), y = .int (k : Int) ∧ xs[k]? = some (.int n) ∧ W X e S fun d => ∃ j : Int, d = .int j ∧ D0.nx (S.set i (sv (xs.set k (.int (f n j)))))) (hN : X.N[i]? = some x := by rfl) (hv : Vis X.env.scope x := by first | exact Or.inl rfl | exact Or.inr (Or.inl rfl) | exact Or.inr (Or.inr rfl))
    (hd : (x == ("__debug__" : Str)) = false := by decide) (hcd : (x == ("__classdict__" : Str)) = false := by decide)
    (ha : ∀ ov iv new, augStore e2 ov iv new = (do holding [new, ov, iv] (setItem ov iv new); release [new, ov, iv] []; pure .next) := by intros; rfl) : WS X (.AugAssign (.Subscript (.Name x px) e2 spos) op e pos) S D0 := fun ow H σ E st m => by
  refine PS.we (ps_augS (pe_var hN hv hd hcd) pe_W get_list pe_W ho set_list ha) ?_
  obtain ⟨l, vs, ev, g, o, a⟩ := st.ownL ol hS
  refine ⟨_, ev, ?_⟩
  refine h ow H σ _ st fun y w ow1 H1 q st1 e1 i1 => ?_
  obtain ⟨k, n, rfl, hk, q⟩ := q
  cases i1
  obtain ⟨l1, vs1, ev1, g1, o1, a1⟩ := st1.ownL ol hS
  rw [ev] at ev1
  cases ev1
  obtain ⟨z, ez, iz⟩ := a1.get hk
  cases iz
  refine ⟨l, vs1, _, k, _, rfl, rfl, g1, rfl, ez, ?_⟩
  refine q ow1 H1 σ _ st1 fun d v ow2 H2 q2 st2 e2' i2 => ?_
  obtain ⟨j, rfl, q2⟩ := q2
  cases i2
  refine ⟨_, _, rfl, rfl, ?_⟩
  obtain ⟨l2, vs2, ev2, g2, o2, a2⟩ := st2.ownL ol hS
  rw [ev] at ev2
  cases ev2
  have hi : i < S.length := (List.getElem?_eq_some_iff.mp hS).1
  have hlt : k < xs.length := (List.getElem?_eq_some_iff.mp hk).1
  refine ⟨l, vs2, _, k, rfl, rfl, g2, ixN_nat (by rw [a2.length]; exact hlt), ?_⟩
  obtain ⟨st3, e3⟩ := st2.upd (o := .lst (vs2.set k (.int (f n j)))) o2 hi (some_ne g2) (ownL_ok ol st2 hS ev o2 (a2.set (.int _) k))
  exact m.nx _ ow2 _ _ q2 (by rw [List.length_set]) st3 (e1.trans (e2'.trans e3))
end

/-! ### the bag -/
def bagL (a0 a1 a2 : Int) (ns : List Int) : List D := [.int a0, .int a1, .int a2, .list (ns.map .int)]
def BagV (a0 a1 a2 : Int) (ns : List Int) : Prop := 0 ≤ a0 ∧ 0 ≤ a1 ∧ a1 < 2147483647 ∧ 0 ≤ a2 ∧ ns.length ≤ 63 ∧ ∀ n ∈ ns, 0 ≤ n
def BagOk (K : PySem.W.Frag) (F : Hp) (u : HO) : Prop := ∃ (a0 a1 a2 : Int) (ns : List Int) (vs : List V), u = .lst vs ∧ IsA K F vs (bagL a0 a1 a2 ns) ∧ BagV a0 a1 a2 ns
theorem BagOk.mono {K : PySem.W.Frag} {F F' : Hp} {u : HO} (e : Ex F F') : BagOk K F u → BagOk K F' u := fun ⟨a0, a1, a2, ns, vs, h1, h2, h3⟩ => ⟨a0, a1, a2, ns, vs, h1, h2.mono e, h3⟩
def Sv.bag {K : PySem.W.Frag} (b : Addr) : Sv K := ⟨fun F G v => v = some (.ref b) ∧ ∃ u, G b = some u ∧ BagOk K F u, fun e g ⟨h1, u, h2, h3⟩ => ⟨h1, u, g _ _ h2, h3.mono e⟩⟩
def BagLike {K : PySem.W.Frag} (b : Addr) (s : Sv K) : Prop := ∀ F G v, s.ok F G v → (Sv.bag b : Sv K).ok F G v
theorem BagLike.bag {K : PySem.W.Frag} {b : Addr} : BagLike b (Sv.bag b : Sv K) := fun _ _ _ h => h
theorem BagLike.ownA {K : PySem.W.Frag} {b : Addr} {a0 a1 a2 : Int} {ns : List Int} (h : BagV a0 a1 a2 ns) : BagLike b (Sv.ownA b (bagL a0 a1 a2 ns) : Sv K) := fun _ _ _ ⟨h1, vs, h2, h3⟩ => ⟨h1, _, h2, a0, a1, a2, ns, vs, rfl, h3, h⟩
def spB (K : PySem.W.Frag) (spf : Spf) : Sp := fun vs H Q _ => ∃ (F : Hp) (b : Addr) (u : HO) (vs' : List V) (ds : List D) (R : D → Prop), vs = .ref b :: vs' ∧ Ex F H ∧ F b = none ∧ H b = some u ∧ BagOk K F u ∧ IsA K F vs' ds ∧ spf ds R ∧
  ∀ (d : D) (v : V) (H' : Hp) (u' : HO), R d → (∀ a o, a ≠ b → H a = some o → H' a = some o) → H' b = some u' → BagOk K (cut F H H') u' → Is K (cut F H H') v d → Q v H'
/-- the first store of a def that takes the bag -/
def SB {K : PySem.W.Frag} (b : Addr) (n : Nat) (ds : List D) : Sto K := .bag b :: (ds.map .dat ++ nos (n - 1 - ds.length))
/-- owners at its entry -/
def owB (F : Hp) (b : Addr) (n : Nat) : Addr → Nat := fun a => if a = b then 1 else match F a with
  | some _ => 0
  | none => n + 1
theorem owB_fz {F H : Hp} {b : Addr} {n : Nat} (e : Ex F H) (hb : F b = none) : fz (owB F b n) H = F := by
  funext a
  unfold fz pt owB
  by_cases c : a = b
  · rw [if_pos c, c, hb]
    exact if_neg (by decide)
  · rw [if_neg c]
    cases h : F a with
    | none => exact if_neg (Nat.succ_ne_zero n)
    | some o =>
      show (if 0 = 0 then H a else none) = some o
      rw [if_pos rfl]
      exact e a o h
theorem stdB {K : PySem.W.Frag} {F H : Hp} {N : List Str} {b : Addr} {u : HO} {vs : List V} {ds : List D} (e : Ex F H) (hF : F b = none) (hb : H b = some u) (hu : BagOk K F u) (a : IsA K F vs ds) (hN : ds.length + 1 ≤ N.length) : Std K (owB F b N.length) H (L2.start N (.ref b :: vs)) (SB b N.length ds) := by
  have hl := a.length
  refine ⟨?_, fun i s h => ?_⟩
  · unfold SB nos
    rw [start_len (by rw [List.length_cons]; omega), List.length_cons, List.length_append, List.length_map, List.length_replicate]
    omega
  · rw [start_get, owB_fz e hF]
    unfold SB nos at h
    cases i with
    | zero =>
      simp only [List.getElem?_cons_zero, Option.some.injEq] at h
      subst h
      refine ⟨rfl, u, pt_of ?_ hb, hu⟩
      unfold owB
      exact if_pos rfl
    | succ i =>
      rw [List.getElem?_cons_succ] at h ⊢
      by_cases hi : i < ds.length
      · rw [List.getElem?_append_left (by simpa using hi), List.getElem?_map] at h
        cases hd : ds[i]? with
        | none =>
          rw [hd] at h
          cases h
        | some d =>
          rw [hd] at h
          cases h
          obtain ⟨v, ev, iv⟩ := a.get hd
          rw [ev]
          exact ⟨v, rfl, iv⟩
      · rw [List.getElem?_append_right (by simpa using hi), List.getElem?_replicate] at h
        split at h
        · cases h
          exact trivial
        · cases h
theorem backB {F H H' : Hp} {b : Addr} {n : Nat} {ow' : Addr → Nat} {u' : HO} (e : Ex F H) (hn : 1 ≤ n) (hb : pt ow' 1 H' b = some u') (sp : Stp n (owB F b n) H ow' H') : (∀ a o, a ≠ b → H a = some o → H' a = some o) ∧ H' b = some u' ∧ Ex (fz ow' H') (cut F H H') := by
  have o1 : ∀ a o, a ≠ b → H a = some o → H' a = some o ∧ ow' a = owB F b n a := fun a o c h => sp.le h (by
    unfold owB
    rw [if_neg c]
    cases F a with
    | none => exact .inr (Nat.lt_succ_self n)
    | some _ => exact .inl rfl)
  obtain ⟨b1, b2⟩ := pt_some hb
  refine ⟨fun a o c h => (o1 a o c h).1, b1, fun a o h => ?_⟩
  obtain ⟨h1, h2⟩ := pt_some h
  have c : a ≠ b := fun c => by
    rw [c, b2] at h2
    cases h2
  unfold cut
  cases hH : H a with
  | none => exact h1
  | some u =>
    cases hF : F a with
    | some v => exact h1
    | none =>
      have q := (o1 a u c hH).2
      unfold owB at q
      rw [if_neg c, hF] at q
      have q' : ow' a = n + 1 := q
      omega
/-- THE RULE for a def that takes the bag -/
theorem fnB_of {P : Program} {w : World} {K : PySem.W.Frag} {mg : Str → Option Value} {base : Heap} {k : Nat} {f : Addr} {x qual : Str} {st : Stmt} {fd : FuncData} {N ps : List Str} {spf : Spf}
    (Fd : L2.FunD K x qual (defArgs st) (defBody st) (defScope st) [] [] f fd) (hmg : mg x = some (.ref f)) (S : FnScope N ps (defScope st))
    (hb : ∀ (kV doc pm : Value) (an : Option Addr) (cdv ct : Value) (us : List Value), us.length = ps.length → bindArgs (PySem.W.fnOf x qual (defArgs st) (defBody st) (defScope st) .none kV doc pm an cdv ct) ⟨us, []⟩ = pure (ps.zip us))
    (hlen : ∀ ds R, spf ds R → ds.length + 1 = ps.length)
    (hbody : ∀ (cdv : Value) (A : Around) (outer : List Env) (s : Shared) (H : Hp) (E : XK) (b : Addr) (ds : List D) (R : D → Prop), Rm k (A.deeper (envOfC qual (defScope st) s.heap.objs.size f cdv)) → spf ds R →
      WSs (Bx P w K mg base N qual (defScope st) f cdv A outer s H E) (defBody st) (SB b N.length ds) { nx := fun S' => R .none ∧ ∃ t, S'[0]? = some t ∧ BagLike b t, rt := fun d S' => R d ∧ ∃ t, S'[0]? = some t ∧ BagLike b t }) :
    FnN P w K mg base (k + 1) x ps (spB K spf) := by
  refine ⟨f, fd, hmg, Fd.kp, FunD.bindsN Fd hb, ?_⟩
  obtain ⟨oc, od, dV, kV, doc, pm, an, cdv, ct, osl, rfl, lk, hcd, hdf, hkw⟩ := Fd.ex
  have hpN : ps.length ≤ N.length := by
    have e : (N.take ps.length).length = ps.length := congrArg List.length S.pre
    rw [List.length_take] at e
    omega
  refine fnG_of lk hcd S (fun vs H Q E h => ?_) fun A outer s H vs Q E hgd hr h => ?_
  · obtain ⟨F, b, u, vs', ds, R, rfl, _, _, _, _, a, q, _⟩ := h
    rw [List.length_cons, a.length]
    exact hlen ds R q
  · obtain ⟨F, b, u, vs', ds, R, rfl, ex, hF, hbb, hu, a, q, kk⟩ := h
    have hdl := hlen ds R q
    have st0 := stdB (N := N) ex hF hbb hu a (by omega)
    have l0 : (SB (K := K) b N.length ds).length = N.length := by
      rw [st0.len]
      exact start_len (by rw [List.length_cons, a.length]; omega)
    have fin : ∀ {S' : Sto K} {ow' : Addr → Nat} {H' : Hp} {σ' : L2.St} {d : D} {v : V} (t : Sv K), S'[0]? = some t → BagLike b t → Std K ow' H' σ' S' → Stp (SB (K := K) b N.length ds).length (owB F b N.length) H ow' H' → R d → Is K (fz ow' H') v d → Q v H' := fun {S' ow' H' σ' d v} t ht hbl st' sp p i => by
      have sp' : Stp (SB (K := K) b N.length ds).length (owB F b N.length) H ow' H' := sp
      rw [l0] at sp'
      obtain ⟨_, u', hu', hbg⟩ := hbl _ _ _ (st'.sl 0 t ht)
      obtain ⟨b1, b2, b3⟩ := backB ex (by omega) hu' sp'
      exact kk d v H' u' p b1 b2 (hbg.mono b3) (i.mono b3)
    refine hbody cdv A outer s H E b ds R ⟨hr, hgd⟩ q (owB F b N.length) H (L2.start N (.ref b :: vs')) _ st0 ⟨fun S' ow' H' σ' p l st' sp => ?_, fun d v S' ow' H' σ' p l st' sp i => ?_, fun S' ow' H' σ' p => p.elim, fun S' ow' H' σ' p => p.elim⟩
    · obtain ⟨p, t, ht, hbl⟩ := p
      exact fin t ht hbl st' sp p .non
    · obtain ⟨p, t, ht, hbl⟩ := p
      exact fin t ht hbl st' sp p i
section
variable {X : Cx} {S : Sto X.K} {Q : D → Prop} {D0 : De X.K} {e o : Expr} {es : List Expr} {pos : Pos} {sts : List Stmt}
/-- the bag is opened -/
theorem wss_bag (i : Nat) {b : Addr} (hS : S[i]? = some (.bag b)) (h : ∀ a0 a1 a2 ns, BagV a0 a1 a2 ns → WSs X sts (S.set i (.ownA b (bagL a0 a1 a2 ns))) D0) : WSs X sts S D0 := fun ow H σ E st m => by
  obtain ⟨e, u, hu, a0, a1, a2, ns, vs, rfl, a, hv⟩ := st.sl i _ hS
  have hi : i < S.length := (List.getElem?_eq_some_iff.mp hS).1
  refine h a0 a1 a2 ns hv ow H σ E ⟨by rw [List.length_set]; exact st.len, fun j t ht => ?_⟩ (by rw [List.length_set]; exact m)
  by_cases c : j = i
  · subst c
    rw [List.getElem?_set_self hi] at ht
    cases ht
    exact ⟨e, vs, hu, a⟩
  · rw [List.getElem?_set_ne (Ne.symm c)] at ht
    exact st.sl j t ht
/-- f(bag, e, ..) -/
theorem w_callB' {k j : Nat} (i : Nat) {b : Addr} {x y : Str} {ps : List Str} {spf : Spf} {p py : Pos} (G : FnN X.prog X.w X.K X.mg X.base j x ps (spB X.K spf)) (hr : Rm k X.A) (hjk : j ≤ k) (hS : S[i]? = some (.bag b)) (h : WA X es S fun ds => spf ds Q) (hg : Gl X x := by rfl) (hdb : (x == ("__debug__" : Str)) = false := by decide)
    (hN : X.N[i]? = some y := by rfl) (hv : Vis X.env.scope y := by first | exact Or.inl rfl | exact Or.inr (Or.inl rfl) | exact Or.inr (Or.inr rfl))
    (hd : (y == ("__debug__" : Str)) = false := by decide) (hcd : (y == ("__classdict__" : Str)) = false := by decide)
    (he : starEach (Expr.Name y py :: es) X.env = (false, eval (Expr.Name y py) X.env) :: starEach es X.env := by rfl) (hpl : (backTo pos (starEach es X.env)).any (·.1) = false := by rfl) : W X (.Call (.Name x p) (.Name y py :: es) [] pos) S Q := fun ow H σ Q' st k => .mk fun pins s I => by
  obtain ⟨f, fd, hm, hk, hb, F⟩ := G
  refine wpAny_Call_Name_kw (ld_glob I hg hm ?_ hdb)
  obtain ⟨eb0, u0, hu0, _⟩ := st.sl i _ hS
  have eb : σ[i]? = some (some (.ref b)) := by
    cases r : σ[i]? with
    | none =>
      rw [r] at eb0
      cases eb0
    | some z =>
      rw [r] at eb0
      have e' : z = some (.ref b) := eb0
      rw [e']
  have hA := (PA.we (X := X) (es := Expr.Name y py :: es) (pa_cons (pe_var hN hv hd hcd) pa_W he) (σ := σ) (H := H)
      (Q := fun vs H1 => ∃ (vs' : List V) (ds : List D) (ow1 : Addr → Nat), vs = .ref b :: vs' ∧ spf ds Q ∧ Std X.K ow1 H1 σ S ∧ Stp S.length ow H ow1 H1 ∧ IsA X.K (fz ow1 H1) vs' ds)
      (by exact ⟨_, eb, h ow H σ _ st fun ds vs ow1 H1 q st1 e1 i1 => ⟨vs, ds, ow1, rfl, q, st1, e1, i1⟩⟩)).r pos pins s I
  refine PySem.W.callWith_K (h₀ := X.base) I.ok.mod.kin hk (thn hA fun us s1 ⟨vs, H1, I1, r, vs', ds, ow1, evs, q, st1, e1, i1⟩ => ⟨I1.kIn, ?_⟩) he hpl
  subst evs
  obtain ⟨_, u, hu, hbg⟩ := st1.sl i _ hS
  obtain ⟨u1, u2⟩ := pt_some hu
  have hi : i < S.length := (List.getElem?_eq_some_iff.mp hS).1
  have hFb : fz ow1 H1 b = none := by
    unfold fz pt
    exact if_neg (by omega)
  refine run_fnG (E := fun _ _ _ => False) F hr.2 (hr.1.mono hjk) hb I1 r ⟨fz ow1 H1, b, u, vs', ds, Q, rfl, pt_le, hFb, u1, hbg, i1, q, fun d v H' u' rq keep hb' hbg' ic => ?_⟩
  have nw_b : nw ow1 H1 b = i + 1 := (nw_old u1).trans u2
  have fzx : Ex (fz ow1 H1) (fz (nw ow1 H1) H') := fun a o h => by
    obtain ⟨h1, h2⟩ := pt_some h
    refine pt_of ((nw_old h1).trans h2) (keep a o (fun c => ?_) h1)
    rw [c, u2] at h2
    cases h2
  have fzc : fz (nw ow1 H1) H' = cut (fz ow1 H1) H1 H' := by
    funext a
    unfold cut fz pt
    cases h : H1 a with
    | none => rw [nw_new h, if_pos rfl]
    | some o =>
      rw [nw_old h]
      by_cases e : ow1 a = 0
      · rw [if_pos e, if_pos e]
      · rw [if_neg e, if_neg e]
  have ptx : ∀ m, m ≠ i + 1 → m ≠ 0 → pt (nw ow1 H1) m H' = pt ow1 m H1 := fun m hm h0 => by
    funext a
    unfold pt
    cases h : H1 a with
    | none =>
      rw [nw_new h, if_neg (Ne.symm h0)]
      split <;> rfl
    | some o =>
      rw [nw_old h]
      by_cases e : ow1 a = m
      · rw [if_pos e, if_pos e]
        exact keep a o (fun c => hm (by rw [← e, c, u2])) h
      · rw [if_neg e, if_neg e]
  refine k d v (nw ow1 H1) H' rq ⟨st1.len, fun m t ht => ?_⟩ (e1.trans ⟨fzx, fun m hm => ?_, fun a ha => ?_⟩) (by rw [fzc]; exact ic)
  · by_cases c : m = i
    · subst c
      rw [hS] at ht
      cases ht
      refine ⟨(st1.sl m _ hS).1, u', pt_of nw_b hb', ?_⟩
      rw [fzc]
      exact hbg'
    · rw [ptx (m + 1) (by omega) (by omega)]
      exact t.mono fzx (Evl.Ex.refl _) (st1.sl m t ht)
  · rw [ptx m (by omega) (by omega)]
    exact Evl.Ex.refl _
  · cases h : H1 a with
    | none => rfl
    | some o =>
      by_cases c : a = b
      · rw [c, hb'] at ha
        cases ha
      · rw [keep a o c h] at ha
        cases ha
end
end K3
end

section
set_option autoImplicit true
set_option Elab.async false
set_option linter.all false
set_option maxRecDepth 100000
set_option maxHeartbeats 1000000
/-! Chains of comparisons, sorted by name, comprehensions without a told end, more. -/
namespace K3
open PySem PySem.Spec PyProof.Rows L2
theorem szl {n : Nat} (h : n ≤ 100000) : n ≤ sizeLine := Nat.le_trans h (by decide)
theorem slt {n : Nat} (h : n < 100000) : n < sizeLine := Nat.lt_of_lt_of_le h (by decide)
def srt {β : Type} (enc : β → D) (bs : List β) : List β := bs.mergeSort (PySem.W.dataLe false enc)
section
variable {X : Cx} {S : Sto X.K} {Q : D → Prop} {D0 : De X.K} {a b c e e2 o elt : Expr} {ifs : List Expr} {es : List Expr} {pos p : Pos}
/-- a op b op' c -/
theorem wt_chain {op op' : CmpOp} {Q : Bool → Prop} (h : W X a S fun d1 => W X b S fun d2 => OD X (compareOp op) d1 d2 fun d => ∃ t, d = .bool t ∧ if t = true then (W X c S fun d3 => OD X (compareOp op') d2 d3 fun d => ∃ t, d = .bool t ∧ Q t) else Q false)
    (hm : lastMarks [op, op'] [b, c] = false := by with_unfolding_all rfl) : WT X (.Compare a [op, op'] [b, c] pos) S Q := fun ow H σ Q' st k => by
  refine PT.we (pt_chain op_W op_W pe_W pe_W pe_W hm) ?_
  refine h ow H σ _ st fun d1 v1 ow1 H1 h1 st1 e1 i1 => ?_
  refine h1 ow1 H1 σ _ st1 fun d2 v2 ow2 H2 h2 st2 e2 i2 => ?_
  refine h2 (fz ow2 H2) H2 v1 v2 _ pt_le (i1.mono e2.fz) i2 fun d v H' ⟨t, ed, q⟩ e i => ?_
  subst ed
  cases i
  refine ⟨t, rfl, ?_⟩
  have st3 := st2.ext e
  have e3 : Stp S.length ow2 H2 (nw ow2 H2) H' := .ext e
  cases t with
  | false =>
    rw [if_neg Bool.false_ne_true] at q ⊢
    exact ⟨false, rfl, k false (nw ow2 H2) H' q st3 (e1.trans (e2.trans e3))⟩
  | true =>
    rw [if_pos rfl] at q ⊢
    refine q (nw ow2 H2) H' σ _ st3 fun d3 v3 ow4 H4 h4 st4 e4 i4 => ?_
    refine h4 (fz ow4 H4) H4 v2 v3 _ pt_le (i2.mono (e3.fz.trans e4.fz)) i4 fun d v H5 ⟨t, ed, q⟩ e i => ?_
    subst ed
    cases i
    exact ⟨t, rfl, k t (nw ow4 H4) H5 q (st4.ext e) (e1.trans (e2.trans (e3.trans (e4.trans (.ext e)))))⟩
/-- sorted(e), e a list of data that are alike -/
theorem w_sorted {β : Type} (T : Tx X.K X.mg) {k : Nat} (hr : Rm k X.A) (enc : β → D) (al : ∀ x y, PySem.W.alike (enc x) (enc y) = true) (so : (∀ x, ∃ y r, enc x = .tuple (y :: r)) ∨ ∀ x, enc x ≠ .none ∧ ∀ xs, enc x ≠ .tuple xs)
    (h : W X e S fun d => ∃ bs : List β, d = .list (bs.map enc) ∧ (∀ x, x ∈ bs → (enc x).hasDict = false ∧ (enc x).depth ≤ 100) ∧ bs.length ≤ 100000 ∧ Q (.list ((srt enc bs).map enc))) (hg : Gl X "sorted" := by rfl) (he : starEach [e] X.env = (false, eval e X.env) :: starEach [] X.env := by rfl) : W X (.Call (.Name "sorted" p) [e] [] pos) S Q :=
  w_callB (id := "sorted") hg T.free (by decide +kernel) (wa_cons (h.mono fun d ⟨bs, ed, hb, hz, q⟩ => wa_nil (by
    subst ed
    refine cd_sortedD enc bs (PySem.W.AllAlike.of al) ?_ (fun x hx => (hb x hx).1) (szl hz) (fun x hx => ?_) q
    · rcases so with so | so
      · exact PySem.W.Sortable.tuples so
      · exact PySem.W.Sortable.others so
    · have h1 := (hb x hx).2
      have h2 := hr.1.un
      omega)) he) (he := he)
/-- a comprehension of which one knows what each element satisfies -/
theorem lcq_any {α : Type} {scope : Scope} {m : Bool} {js vs : List Nat} {Q : List D → Prop} (xs : List α) (enc : α → D) (Pr : α → D → Prop) (hz : xs.length < sizeLine)
    (h : ∀ a, a ∈ xs → ∃ S2 : Sto X.K, inT m js (enc a) (wipeS S vs) S2 ∧ ∀ (s : Shared) (H : Hp) (C : Addr) (cl : List (Str × Addr)) (fp : List Addr), W (Bk X scope s H C cl fp) elt S2 (fun y => Pr a y))
    (q : ∀ ys : List D, ys.length = xs.length → (∀ (i : Nat) (a : α) (y : D), xs[i]? = some a → ys[i]? = some y → Pr a y) → Q ys) : LcQ X scope elt [] S m js vs (xs.map enc) Q := by
  refine ⟨by rw [List.length_map]; exact hz, fun i acc => acc.length = i ∧ ∀ (j : Nat) (a : α) (y : D), xs[j]? = some a → acc[j]? = some y → Pr a y, ⟨rfl, fun j a y _ h => by simp at h⟩, fun i d acc hd _ hP => ?_, fun acc _ hP => ?_⟩
  · rw [List.getElem?_map] at hd
    cases e : xs[i]? with
    | none =>
      rw [e] at hd
      cases hd
    | some a =>
      rw [e] at hd
      cases hd
      obtain ⟨S2, it, hw⟩ := h a (List.mem_of_getElem? e)
      refine ⟨S2, it, fun s H C cl fp => wts_nil ?_⟩
      rw [if_pos rfl]
      intro s' H' C' cl' fp'
      refine (hw s' H' C' cl' fp').mono fun y ey => ⟨by rw [List.length_append, hP.1]; rfl, fun j a' y' h1 h2 => ?_⟩
      by_cases hj : j < acc.length
      · rw [List.getElem?_append_left hj] at h2
        exact hP.2 j a' y' h1 h2
      · have hji : j = i := by
          have := (List.getElem?_eq_some_iff.mp h2).1
          rw [List.length_append, List.length_singleton] at this
          have := hP.1
          omega
        subst hji
        rw [List.getElem?_append_right (by omega), hP.1, Nat.sub_self] at h2
        simp only [List.getElem?_cons_zero, Option.some.injEq] at h2
        subst h2
        rw [e] at h1
        cases h1
        exact ey
  · rw [List.length_map] at hP
    exact q acc hP.1 hP.2
/-- a, b = e, e2 (two locals) -/
theorem ws_par2 (i j : Nat) {x y : Str} {px py ptt : Pos} {kt k2 : Nat} {p2 : Pos} (nd : X.N.Nodup) (h : WVA X [a, b] S fun ss => ss.length = 2 ∧ D0.nx (setAll [i, j] ss S)) (hij : i ≠ j := by decide) (hl1 : Nat.blt i S.length = true := by rfl) (hl2 : Nat.blt j S.length = true := by rfl) (hc : X.calm = true := by rfl)
    (hi : X.N[i]? = some x := by rfl) (hj : X.N[j]? = some y := by rfl) (hx : X.env.scope.names.lookup x = some .local := by rfl) (hy : X.env.scope.names.lookup y = some .local := by rfl)
    (hw : swappedStores [.Tuple [.Name x px, .Name y py] kt ptt] (.Tuple [a, b] k2 p2) X.env = pure (some [x, y]) := by rfl)
    (hs : swapsWithSole [.Tuple [.Name x px, .Name y py] kt ptt] (.Tuple [a, b] k2 p2) pos.line X.env = pure false := by rfl) :
    WS X (.Assign [.Tuple [.Name x px, .Name y py] kt ptt] (.Tuple [a, b] k2 p2) pos) S D0 := ws_par hc nd hij ⟨Nat.le_of_ble_eq_true hl1, Nat.le_of_ble_eq_true hl2⟩ h hi hj hx hy hw hs
/-- a, b, c = e, e2, e3 (three locals) -/
theorem ws_par3' (i j k : Nat) {x y z : Str} {px py pz ptt : Pos} {kt k2 : Nat} {p2 : Pos} (nd : X.N.Nodup) (h : WVA X [a, b, c] S fun ss => ss.length = 3 ∧ D0.nx (setAll [i, j, k] ss S)) (hij : i ≠ j := by decide) (hik : i ≠ k := by decide) (hjk : j ≠ k := by decide) (hl1 : Nat.blt i S.length = true := by rfl) (hl2 : Nat.blt j S.length = true := by rfl) (hl3 : Nat.blt k S.length = true := by rfl) (hc : X.calm = true := by rfl)
    (hi : X.N[i]? = some x := by rfl) (hj : X.N[j]? = some y := by rfl) (hk : X.N[k]? = some z := by rfl) (hx : X.env.scope.names.lookup x = some .local := by rfl) (hy : X.env.scope.names.lookup y = some .local := by rfl) (hz : X.env.scope.names.lookup z = some .local := by rfl)
    (hw : swappedStores [.Tuple [.Name x px, .Name y py, .Name z pz] kt ptt] (.Tuple [a, b, c] k2 p2) X.env = pure (some [x, y, z]) := by rfl)
    (hs : swapsWithSole [.Tuple [.Name x px, .Name y py, .Name z pz] kt ptt] (.Tuple [a, b, c] k2 p2) pos.line X.env = pure false := by rfl) :
    WS X (.Assign [.Tuple [.Name x px, .Name y py, .Name z pz] kt ptt] (.Tuple [a, b, c] k2 p2) pos) S D0 := ws_par3 hc nd hij hik hjk ⟨Nat.le_of_ble_eq_true hl1, Nat.le_of_ble_eq_true hl2, Nat.le_of_ble_eq_true hl3⟩ h hi hj hk hx hy hz hw hs
/-- a, b = e, e2 (the pair is made) -/
theorem ws_tup2 (i j : Nat) {x y : Str} {px py ptt : Pos} {kt k2 : Nat} {p2 : Pos} (nd : X.N.Nodup) (h : WVA X [a, b] S fun ss => ss.length = 2 ∧ D0.nx (setAll [i, j] ss S)) (hc : X.calm = true := by rfl)
    (hN : X.N[i]? = some x := by rfl) (hx : Loc X.env.scope x := by first | exact Or.inl rfl | exact Or.inr rfl) (hf : X.fn x = true ∨ X.env.scope.names.lookup x = some .local := by first | exact .inl rfl | exact .inr rfl)
    (hN2 : X.N[j]? = some y := by rfl) (hy : Loc X.env.scope y := by first | exact Or.inl rfl | exact Or.inr rfl) (hf2 : X.fn y = true ∨ X.env.scope.names.lookup y = some .local := by first | exact .inl rfl | exact .inr rfl)
    (hj : (([i, j] : List Nat).all fun j => Nat.blt j S.length) = true := by rfl) (hs : swapsWithSole [.Tuple [.Name x px, .Name y py] kt ptt] (.Tuple [a, b] k2 p2) pos.line X.env = pure false := by rfl) (hw : swappedStores [.Tuple [.Name x px, .Name y py] kt ptt] (.Tuple [a, b] k2 p2) X.env = pure none := by rfl) :
    WS X (.Assign [.Tuple [.Name x px, .Name y py] kt ptt] (.Tuple [a, b] k2 p2) pos) S D0 :=
  ws_tup [i, j] hc (pgs1 nd hN hx hf (pgs1 nd hN2 hy hf2 pgs0)) (lts hj) h (hz := Nat.le_of_ble_eq_true rfl) (hs := hs) (hw := hw)
theorem ws_tup3 (i j k : Nat) {x y z : Str} {px py pz ptt : Pos} {kt k2 : Nat} {p2 : Pos} (nd : X.N.Nodup) (h : WVA X [a, b, c] S fun ss => ss.length = 3 ∧ D0.nx (setAll [i, j, k] ss S)) (hc : X.calm = true := by rfl)
    (hN : X.N[i]? = some x := by rfl) (hx : Loc X.env.scope x := by first | exact Or.inl rfl | exact Or.inr rfl) (hf : X.fn x = true ∨ X.env.scope.names.lookup x = some .local := by first | exact .inl rfl | exact .inr rfl)
    (hN2 : X.N[j]? = some y := by rfl) (hy : Loc X.env.scope y := by first | exact Or.inl rfl | exact Or.inr rfl) (hf2 : X.fn y = true ∨ X.env.scope.names.lookup y = some .local := by first | exact .inl rfl | exact .inr rfl)
    (hN3 : X.N[k]? = some z := by rfl) (hz : Loc X.env.scope z := by first | exact Or.inl rfl | exact Or.inr rfl) (hf3 : X.fn z = true ∨ X.env.scope.names.lookup z = some .local := by first | exact .inl rfl | exact .inr rfl)
    (hj : (([i, j, k] : List Nat).all fun j => Nat.blt j S.length) = true := by rfl) (hs : swapsWithSole [.Tuple [.Name x px, .Name y py, .Name z pz] kt ptt] (.Tuple [a, b, c] k2 p2) pos.line X.env = pure false := by rfl) (hw : swappedStores [.Tuple [.Name x px, .Name y py, .Name z pz] kt ptt] (.Tuple [a, b, c] k2 p2) X.env = pure none := by rfl) :
    WS X (.Assign [.Tuple [.Name x px, .Name y py, .Name z pz] kt ptt] (.Tuple [a, b, c] k2 p2) pos) S D0 :=
  ws_tup [i, j, k] hc (pgs1 nd hN hx hf (pgs1 nd hN2 hy hf2 (pgs1 nd hN3 hz hf3 pgs0))) (lts hj) h (hz := Nat.le_of_ble_eq_true rfl) (hs := hs) (hw := hw)
end
/-- what holds nothing of its own -/
def Fr {K : PySem.W.Frag} (s : Sv K) : Prop := s = .no ∨ ∃ d, s = .dat d
theorem Fr.no {K : PySem.W.Frag} : Fr (.no : Sv K) := .inl rfl
theorem Fr.dat {K : PySem.W.Frag} {d : D} : Fr (.dat d : Sv K) := .inr ⟨d, rfl⟩
section
variable {K : PySem.W.Frag} {S : Sto K}
theorem idleF {j : Nat} {js : List Nat} {s : Sv K} (h : S[j]? = some s) (f : Fr s) (t : Idle S js) : Idle S (j :: js) := idle_cons (by
  rcases f with rfl | ⟨d, rfl⟩
  · exact .inl h
  · exact .inr ⟨d, h⟩) t
theorem idle1F {j : Nat} {s : Sv K} (h : S[j]? = some s) (f : Fr s) : Idle S [j] := idleF h f idle_nil
end
end K3
end

section
set_option autoImplicit true
set_option Elab.async false
set_option linter.all false
set_option maxRecDepth 100000
set_option maxHeartbeats 1000000
/-! The order of data. -/
namespace K3
open PySem PySem.Spec PyProof.Rows L2
theorem dlt_irr (d : D) : PySem.W.dataLt d d = false := lex_irrefl _
theorem dlt_trans {a b c : D} (h1 : PySem.W.dataLt a b = true) (h2 : PySem.W.dataLt b c = true) : PySem.W.dataLt a c = true := lex_trans _ _ _ h1 h2
theorem dlt_asym {a b : D} (h1 : PySem.W.dataLt a b = true) : PySem.W.dataLt b a = false := by
  cases h : PySem.W.dataLt b a with
  | false => rfl
  | true =>
    have := dlt_trans h1 h
    rw [dlt_irr] at this
    cases this
theorem dlt_tot {a b : D} (h1 : PySem.W.dataLt a b = false) (h2 : PySem.W.dataLt b a = false) : PySem.W.keyToks a = PySem.W.keyToks b := lex_total _ _ h1 h2
theorem dlt_neg {a b c : D} (h1 : PySem.W.dataLt b a = false) (h2 : PySem.W.dataLt c b = false) : PySem.W.dataLt c a = false := by
  cases h : PySem.W.dataLt c a with
  | false => rfl
  | true =>
    rcases lex_negTrans _ (PySem.W.keyToks b) _ h with z | z
    · have z' : PySem.W.dataLt c b = true := z
      rw [h2] at z'
      cases z'
    · have z' : PySem.W.dataLt b a = true := z
      rw [h1] at z'
      cases z'
section
variable {β : Type} {enc : β → D}
abbrev Asc (enc : β → D) (xs : List β) : Prop := xs.Pairwise fun x y => PySem.W.dataLt (enc y) (enc x) = false
theorem srt_asc (xs : List β) : Asc enc (srt enc xs) := by
  refine (List.pairwise_mergeSort (le := PySem.W.dataLe false enc) (fun x y z => ?_) (fun x y => ?_) _).imp fun {x y} h => ?_
  · intro h1 h2
    simp only [PySem.W.dataLe_eq, cond_false, Bool.not_eq_true'] at h1 h2 ⊢
    exact dlt_neg h1 h2
  · simp only [PySem.W.dataLe_eq, cond_false, Bool.or_eq_true, Bool.not_eq_true']
    cases h : PySem.W.dataLt (enc y) (enc x) with
    | false => exact .inl rfl
    | true => exact .inr (dlt_asym h)
  · simp only [PySem.W.dataLe_eq, cond_false, Bool.not_eq_true'] at h
    exact h
theorem srt_perm (xs : List β) : (srt enc xs).Perm xs := List.mergeSort_perm _ _
end
end K3
end

section
set_option autoImplicit true
set_option Elab.async false
set_option linter.all false
set_option maxRecDepth 100000
set_option maxHeartbeats 1000000
/-! The script's slot; the def that makes the bag. -/
namespace K3
open PySem PySem.Spec PyProof.Rows L2
/-- the script -/
def Sv.sq {K : PySem.W.Frag} (ns : List Int) : Sv K := ⟨fun F _ v => ∃ a, v = some (.ref a) ∧ SqL K F a (ns.map V.int), fun e _ ⟨a, h1, h2⟩ => ⟨a, h1, Evl.ex_l e h2⟩⟩
theorem Std.sq {K : PySem.W.Frag} {ow : Addr → Nat} {H : Hp} {σ : L2.St} {S : Sto K} (st : Std K ow H σ S) {i : Nat} {ns : List Int} (h : S[i]? = some (.sq ns)) : ∃ a, σ[i]? = some (some (.ref a)) ∧ SqL K (fz ow H) a (ns.map V.int) := by
  obtain ⟨a, e, q⟩ := st.sl i _ h
  refine ⟨a, ?_, q⟩
  cases r : σ[i]? with
  | none =>
    rw [r] at e
    cases e
  | some z =>
    rw [r] at e
    have e' : z = some (.ref a) := e
    rw [e']
theorem cutV_ints (ns : List Int) (lo hi : Option Int) : cutV (ns.map V.int) lo hi = ((ns.drop (HT.sIx ns.length 0 lo)).take (HT.sIx ns.length ns.length hi - HT.sIx ns.length 0 lo)).map V.int := by
  unfold cutV
  rw [List.length_map, ← List.map_drop, ← List.map_take]
section
variable {X : Cx} {S : Sto X.K} {Q : D → Prop} {D0 : De X.K} {e : Expr} {pos p2 : Pos} {x : Str} {px : Pos}
/-- script[:e] -/
theorem w_slSq (i : Nat) {ns : List Int} (hS : S[i]? = some (.sq ns)) (h : W X e S fun d => ∃ n : Nat, d = .int (n : Int) ∧ Q (.list ((ns.take n).map .int))) (hN : X.N[i]? = some x := by rfl) (hv : Vis X.env.scope x := by first | exact Or.inl rfl | exact Or.inr (Or.inl rfl) | exact Or.inr (Or.inr rfl))
    (hd : (x == ("__debug__" : Str)) = false := by decide) (hcd : (x == ("__classdict__" : Str)) = false := by decide) : W X (.Subscript (.Name x px) (.Slice none (some e) none p2) pos) S Q := fun ow H σ Q' st k => by
  refine PE.we (pe_slice sl_list (pe_var hN hv hd hcd) po_none (po_some pe_W)) ?_
  obtain ⟨a, ev, q⟩ := st.sq hS
  refine ⟨_, ev, ?_⟩
  refine h ow H σ _ st fun d v ow1 H1 q1 st1 e1 i1 => ?_
  obtain ⟨n, rfl, q1⟩ := q1
  cases i1
  refine ⟨_, rfl, a, _, rfl, Evl.ex_l (e1.fz.trans pt_le) q, fun p hp => ?_⟩
  have ex : Ex H1 (upd H1 p (.lst (cutV (ns.map V.int) none (some (n : Int))))) := Evl.Ex.new hp
  have e2 : cutV (ns.map V.int) none (some (n : Int)) = (ns.take n).map V.int := by
    rw [cutV_ints, HT.sIx_none, HT.sIx_nat, List.drop_zero, Nat.sub_zero]
    by_cases h : n ≤ ns.length
    · rw [Nat.min_eq_left h]
    · rw [Nat.min_eq_right (by omega), List.take_length, List.take_of_length_le (by omega)]
  refine k _ _ (nw ow1 H1) _ q1 (st1.ext ex) (e1.trans (.ext ex)) (.lst (pt_of (nw_new hp) upd_same) ?_)
  rw [e2]
  exact IsA.of_ints _
end
/-- of the script's list, a new bag -/
def spM (K : PySem.W.Frag) : Sp := fun vs H Q _ => ∃ (F : Hp) (a : Addr) (ns : List Int), vs = [.ref a] ∧ Ex F H ∧ SqL K F a (ns.map V.int) ∧
  ∀ (b : Addr) (u : HO) (H' : Hp), Ex H H' → H b = none → H' b = some u → BagOk K (fun x => if x = b then none else cut F H H' x) u → Q (.ref b) H'
theorem stdM {K : PySem.W.Frag} {F H : Hp} {N : List Str} {a : Addr} {ns : List Int} (e : Ex F H) (q : SqL K F a (ns.map V.int)) (hN : 1 ≤ N.length) : Std K (ow0 F N.length) H (L2.start N [.ref a]) (.sq ns :: nos (N.length - 1)) := by
  refine ⟨?_, fun i s h => ?_⟩
  · unfold nos
    rw [start_len (by simpa using hN), List.length_cons, List.length_replicate]
    omega
  · rw [start_get, ow0_fz e]
    cases i with
    | zero =>
      simp only [List.getElem?_cons_zero, Option.some.injEq] at h
      subst h
      exact ⟨a, rfl, q⟩
    | succ i =>
      unfold nos at h
      rw [List.getElem?_cons_succ, List.getElem?_replicate] at h
      split at h
      · cases h
        exact trivial
      · cases h
theorem fnM_of {P : Program} {w : World} {K : PySem.W.Frag} {mg : Str → Option Value} {base : Heap} {k : Nat} {f : Addr} {x qual : Str} {st : Stmt} {fd : FuncData} {N ps : List Str} {e : Expr} {rpos : Pos}
    (Fd : L2.FunD K x qual (defArgs st) (defBody st) (defScope st) [] [] f fd) (hmg : mg x = some (.ref f)) (S : FnScope N ps (defScope st)) (hps : ps.length = 1)
    (hb : ∀ (kV doc pm : Value) (an : Option Addr) (cdv ct : Value) (us : List Value), us.length = ps.length → bindArgs (PySem.W.fnOf x qual (defArgs st) (defBody st) (defScope st) .none kV doc pm an cdv ct) ⟨us, []⟩ = pure (ps.zip us))
    (hbd : defBody st = [.Return (some e) rpos])
    (hbody : ∀ (cdv : Value) (A : Around) (outer : List Env) (s : Shared) (H : Hp) (E : XK) (ns : List Int), Rm k (A.deeper (envOfC qual (defScope st) s.heap.objs.size f cdv)) →
      WV (Bx P w K mg base N qual (defScope st) f cdv A outer s H E) e (.sq ns :: nos (N.length - 1)) (fun t => ∃ a0 a1 a2 ns, BagV a0 a1 a2 ns ∧ t = .own (bagL a0 a1 a2 ns))) :
    FnN P w K mg base (k + 1) x ps (spM K) := by
  refine ⟨f, fd, hmg, Fd.kp, FunD.bindsN Fd hb, ?_⟩
  obtain ⟨oc, od, dV, kV, doc, pm, an, cdv, ct, osl, rfl, lk, hcd, hdf, hkw⟩ := Fd.ex
  have hpN : ps.length ≤ N.length := by
    have e : (N.take ps.length).length = ps.length := congrArg List.length S.pre
    rw [List.length_take] at e
    omega
  refine fnG_of lk hcd S (fun vs H Q E h => ?_) fun A outer s H vs Q E hgd hr h => ?_
  · obtain ⟨F, a, ns, rfl, _⟩ := h
    exact hps.symm
  · obtain ⟨F, a, ns, rfl, ex, q, kk⟩ := h
    have st0 := stdM (N := N) ex q (by omega)
    rw [hbd]
    refine PSs.we (pss_one (ps_ret pe_W)) ?_
    refine hbody cdv A outer s H E ns ⟨hr, hgd⟩ (ow0 F N.length) H (L2.start N [.ref a]) _ st0 fun t v ow' H' ⟨a0, a1, a2, ms, hv, et⟩ st' sp ok => ?_
    subst et
    obtain ⟨l, vs, ev, hz, ia⟩ := ok
    cases ev
    obtain ⟨z1, z2, z3⟩ := zn_some hz
    have l1 : (Sv.sq ns :: nos (N.length - 1) : Sto K).length = N.length := by
      unfold nos
      rw [List.length_cons, List.length_replicate]
      omega
    have sp' : Stp (Sv.sq ns :: nos (N.length - 1) : Sto K).length (ow0 F N.length) H ow' H' := sp
    have z2' : ow' l = (Sv.sq ns :: nos (N.length - 1) : Sto K).length + 1 := z2
    rw [l1] at sp' z2'
    obtain ⟨b1, b2⟩ := back0 ex sp'
    refine kk l (.lst vs) H' b1 z1 z3 ⟨a0, a1, a2, ms, vs, rfl, ia.mono fun y o hy => ?_, hv⟩
    have hne : y ≠ l := fun c => by
      obtain ⟨_, q2⟩ := pt_some hy
      rw [c, z2'] at q2
      cases q2
    show (if y = l then none else cut F H H' y) = some o
    rw [if_neg hne]
    exact b2 y o hy
section
variable {X : Cx} {S : Sto X.K} {e : Expr} {pos : Pos}
/-- b = f(script) -/
theorem wv_callM {k j : Nat} (i : Nat) {ns : List Int} {x y : Str} {ps : List Str} {p py : Pos} {Q : Sv X.K → Prop} (G : FnN X.prog X.w X.K X.mg X.base j x ps (spM X.K)) (hr : Rm k X.A) (hjk : j ≤ k) (hS : S[i]? = some (.sq ns)) (q : ∀ b, Q (.bag b)) (hg : Gl X x := by rfl) (hdb : (x == ("__debug__" : Str)) = false := by decide)
    (hN : X.N[i]? = some y := by rfl) (hv : Vis X.env.scope y := by first | exact Or.inl rfl | exact Or.inr (Or.inl rfl) | exact Or.inr (Or.inr rfl))
    (hd : (y == ("__debug__" : Str)) = false := by decide) (hcd : (y == ("__classdict__" : Str)) = false := by decide)
    (he : starEach [Expr.Name y py] X.env = (false, eval (Expr.Name y py) X.env) :: starEach [] X.env := by rfl) : WV X (.Call (.Name x p) [.Name y py] [] pos) S Q := fun ow H σ Q' st k => .mk fun pins s I => by
  obtain ⟨f, fd, hm, hk, hb, F⟩ := G
  refine wpAny_Call_Name_kw (ld_glob I hg hm ?_ hdb)
  obtain ⟨a, ev, sq⟩ := st.sq hS
  have hA := (PA.we (X := X) (pa_cons (pe_var hN hv hd hcd) pa_nil he) (σ := σ) (H := H) (Q := fun vs H1 => vs = [.ref a] ∧ H1 = H) (by exact ⟨_, ev, rfl, rfl⟩)).r pos pins s I
  refine PySem.W.callWith_K (h₀ := X.base) I.ok.mod.kin hk (thn hA fun us s1 ⟨vs, H1, I1, r, evs, eH⟩ => ⟨I1.kIn, ?_⟩) he (by rfl)
  subst evs eH
  refine run_fnG (E := fun _ _ _ => False) F hr.2 (hr.1.mono hjk) hb I1 r ⟨fz ow H1, a, ns, rfl, pt_le, sq, fun b u H' ex hb0 hb1 hbg => ?_⟩
  let ow' : Addr → Nat := fun x => if x = b then S.length + 1 else nw ow H1 x
  have w1 : ∀ x, x ≠ b → ow' x = nw ow H1 x := fun x c => if_neg c
  have w2 : ow' b = S.length + 1 := if_pos rfl
  have hne : ∀ {x o}, H1 x = some o → x ≠ b := fun {x o} h c => by
    rw [c, hb0] at h
    cases h
  have fze : Ex (fz ow H1) (fz ow' H') := fun x o h => by
    obtain ⟨h1, h2⟩ := pt_some h
    exact pt_of ((w1 x (hne h1)).trans ((nw_old h1).trans h2)) (ex x o h1)
  have pte : ∀ m, m ≠ 0 → m ≠ S.length + 1 → pt ow' m H' = pt ow m H1 := fun m h0 hm => by
    funext x
    unfold pt
    by_cases c : x = b
    · rw [c, w2, if_neg (Ne.symm hm), hb0]
      split <;> rfl
    · rw [w1 x c]
      cases h : H1 x with
      | none =>
        rw [nw_new h, if_neg (Ne.symm h0)]
        split <;> rfl
      | some o =>
        rw [nw_old h, ex x o h]
  refine k (.bag b) (.ref b) ow' H' (q b) ⟨st.len, fun m t ht => ?_⟩ ⟨fze, fun m hm x o h => ?_, ex_dom ex⟩ ⟨rfl, u, zn_of hb0 w2 hb1, hbg.mono fun x o h => ?_⟩
  · have hi : m < S.length := (List.getElem?_eq_some_iff.mp ht).1
    rw [pte (m + 1) (by omega) (by omega)]
    exact t.mono fze (Evl.Ex.refl _) (st.sl m t ht)
  · obtain ⟨h1, h2⟩ := pt_some h
    exact pt_of ((w1 x (hne h1)).trans ((nw_old h1).trans h2)) (ex x o h1)
  · have h' : (if x = b then none else cut (fz ow H1) H1 H' x) = some o := h
    by_cases c : x = b
    · rw [if_pos c] at h'
      cases h'
    · rw [if_neg c, ← fz_nw] at h'
      obtain ⟨h1, h2⟩ := pt_some h'
      exact pt_of ((w1 x c).trans h2) h1
end
end K3
end

section
set_option autoImplicit true
set_option Elab.async false
set_option linter.all false
set_option maxRecDepth 100000
set_option maxHeartbeats 1000000
namespace K3
open PySem PySem.Spec PyProof.Rows L2
section
variable {X : Cx} {S : Sto X.K} {D0 : De X.K} {st : Stmt} {rest : List Stmt}
/-- by what holds between -/
theorem wss_mid (Mid : Sto X.K → Prop) (h : WS X st S { D0 with nx := Mid }) (k : ∀ S', S'.length = S.length → Mid S' → WSs X rest S' D0) : WSs X (st :: rest) S D0 :=
  wss_cons fun ow H σ E std m => h ow H σ E std ⟨fun S' ow' H' σ' p l st' sp => m.nx S' ow' H' σ' (fun l' => k S' l' p) l st' sp, m.rt, m.bk, m.ct⟩
theorem ws_mono {D1 : De X.K} (h : WS X st S D1) (hn : ∀ S', S'.length = S.length → D1.nx S' → D0.nx S') (hr : D1.rt = D0.rt) (hb : D1.bk = D0.bk) (hc : D1.ct = D0.ct) : WS X st S D0 := fun ow H σ E std m =>
  h ow H σ E std ⟨fun S' ow' H' σ' p l st' sp => m.nx S' ow' H' σ' (hn S' l p) l st' sp, by rw [hr]; exact m.rt, by rw [hb]; exact m.bk, by rw [hc]; exact m.ct⟩
end
end K3
end

section
set_option autoImplicit true
set_option Elab.async false
set_option linter.all false
set_option maxRecDepth 100000
set_option maxHeartbeats 1000000
namespace K3
open PySem PySem.Spec PyProof.Rows L2
abbrev dN (n : Nat) : D := .int (n : Int)
abbrev tN (ns : List Nat) : D := .tuple (ns.map dN)
theorem dN_map (ns : List Nat) : ns.map dN = (ns.map Int.ofNat).map PyData.int := by rw [List.map_map]; rfl
theorem idxOf_ofNat (ns : List Nat) (k : Nat) : (ns.map Int.ofNat).idxOf (k : Int) = ns.idxOf k := by
  induction ns with
  | nil => rfl
  | cons n ns ih =>
    rw [List.map_cons, List.idxOf_cons, List.idxOf_cons, ih]
    have e : ((Int.ofNat n == (k : Int)) : Bool) = (n == k) := by
      rw [Bool.eq_iff_iff, beq_iff_eq, beq_iff_eq]
      exact Int.ofNat_inj
    rw [e]
section
variable {X : Cx} {S : Sto X.K} {Q : D → Prop} {e o : Expr} {es : List Expr} {pos : Pos}
theorem w_indexN {apos cpos : Pos} (h : W X o S fun d => ∃ ns : List Nat, d = tN ns ∧ W X e S fun y => ∃ i : Nat, y = dN i ∧ i ∈ ns ∧ Q (dN (ns.idxOf i)))
    (hbase : attributeBase o "index" X.env (eval o X.env) = eval o X.env := by rfl)
    (hfew : ((backTo cpos (starEach [e] X.env)).all (fun x => !x.1) && (backToKw cpos (keywordEach [] X.env)).all (fun x => x.1.isSome)
      && decide ([e].length + ([] : List Keyword).length + (if ([] : List Keyword).isEmpty then 0 else 1) < 30)) = true := by rfl)
    (hline : (apos.endLine == cpos.line) = true := by rfl) (hs : starEach [e] X.env = (false, eval e X.env) :: starEach [] X.env := by rfl) : W X (.Call (.Attribute o "index" apos) [e] [] cpos) S Q := by
  refine w_index (h.mono fun d ⟨ns, ed, q⟩ => ⟨ns.map Int.ofNat, by rw [ed, tN, dN_map], q.mono fun y ⟨i, ey, hi, q⟩ => ⟨(i : Int), ey, List.mem_map_of_mem (f := Int.ofNat) hi, ?_⟩⟩) hbase hfew hline hs
  rw [idxOf_ofNat]
  exact q
end
section
variable {P : Program} {w : World} {K : PySem.W.Frag} {mg : Str → Option Value} {base : Heap}
def spBack : Spf := fun ds R => ∃ ns : List Nat, ds = [tN ns] ∧ ns.length ≤ 100 ∧ (∀ k, k < ns.length → k ∈ ns) ∧ R (tN ((List.range ns.length).map fun k => ns.idxOf k))
theorem sc43 : FnScope ["_law_order", "_law_k"] ["_law_order"] (defScope (top 43)) := ⟨rfl, rfl, rfl, by decide +kernel, rfl, by decide +kernel, by decide +kernel⟩
theorem ok_back (T : Tx K mg) : FnN P w K mg base 1 "_law_back" ["_law_order"] (spD K spBack) := by
  obtain ⟨f, fd, F, hmg⟩ := T.top (x := "_law_back") (j := 43) 32
  refine fnD_of F hmg sc43 (fun _ _ _ _ _ _ us hl => match us, hl with | [_], _ => rfl) (fun ds R h => by obtain ⟨ns, rfl, _⟩ := h; rfl) fun cdv A outer s H E ds R hr h => ?_
  obtain ⟨ns, rfl, hz, hin, q⟩ := h
  refine wss_one (ws_ret (w_tuple T ?_))
  refine w_lcN 1 [("_law_k", 1)] sc43.nd (blkOk_by (N := ["_law_order", "_law_k"]) (sc := defScope (top 43)) (by decide +kernel)) (idle1 rfl) ?_
  refine wi_range rfl T.free (w_len T (w_var 0 rfl ⟨_, .inr rfl, ?_⟩))
  refine ⟨_, rfl, by omega, by simp; omega, ?_⟩
  refine lcq_map (List.range (ns.map dN).length) _ (fun k => dN (ns.idxOf k)) ?_ (fun a ha => ?_) ?_
  · rw [List.length_range, List.length_map]
    exact Nat.lt_of_le_of_lt hz (by decide)
  · refine ⟨_, rfl, fun s H C cl fp => ?_⟩
    refine w_indexN (w_var 0 rfl ⟨ns, rfl, w_var 1 rfl ⟨a, ?_, ?_, rfl⟩⟩)
    · show PyData.int (0 + (a : Int) * 1) = PyData.int a
      rw [Int.mul_one, Int.zero_add]
    · rw [List.mem_range, List.length_map] at ha
      exact hin a ha
  · refine ⟨_, rfl, ?_⟩
    have e : (List.range (ns.map dN).length).map (fun k => dN (ns.idxOf k)) = ((List.range ns.length).map fun k => ns.idxOf k).map dN := by rw [List.length_map, List.map_map]; rfl
    rw [e]
    exact q
end
end K3
end

section
set_option autoImplicit true
set_option Elab.async false
set_option linter.all false
set_option maxRecDepth 100000
set_option maxHeartbeats 1000000
/-! Ranges in plain numbers; dicts: list(d), sorted(d), dict(pairs), keys gone through. -/
namespace K3
open PySem PySem.Spec PyProof.Rows L2
theorem rngD_dN (n : Nat) : rngD 0 1 n = (List.range n).map dN := by
  unfold rngD
  refine List.map_congr_left fun i _ => ?_
  show PyData.int (0 + (i : Int) * 1) = PyData.int (i : Int)
  rw [Int.mul_one, Int.zero_add]
theorem rgV_ints (n : Nat) : rgV 0 (n : Int) = ((List.range n).map fun (i : Nat) => ((i : Nat) : Int)).map V.int := by
  unfold rgV
  rw [List.map_map]
  have e : ((n : Int) - 0).toNat = n := by omega
  rw [e]
  refine List.map_congr_left fun i _ => ?_
  simp
theorem IsK.kv {K : PySem.W.Frag} {F : Hp} : ∀ {kvs : List (Key × V)} {ks : List (Int × D)}, IsK K F kvs ks → kvs.map (fun kv => kV kv.1) = ks.map fun p => V.int p.1
  | _, _, .nil => rfl
  | _, _, .cons h t => by rw [List.map_cons, List.map_cons, IsK.kv t]; rfl
/-- the ints of the keys -/
def keysD (ks : List (Int × D)) : List Int := ks.map (·.1)
section
variable {X : Cx} {S : Sto X.K} {Q : D → Prop} {e e2 o tg : Expr} {es : List Expr} {pos p pp : Pos} {x : Str} {px : Pos} {b : Bool}
theorem wi_rangeN {QL : List D → Prop} (T : Tx X.K X.mg) (h : W X e S fun d => ∃ n : Nat, d = dN n ∧ n ≤ 100000 ∧ QL ((List.range n).map dN)) (hg : Gl X "range" := by rfl) (hs : starEach [e] X.env = [(false, eval e X.env)] := by rfl) : WI X tg (.Call (.Name "range" pp) [e] [] pos) S b QL :=
  wi_range hg T.free (h.mono fun d ⟨n, ed, hn, q⟩ => ⟨(n : Int), ed, by omega, by omega, by rw [Int.toNat_natCast, rngD_dN]; exact q⟩) hs
/-- list(range(n)) -/
theorem w_listRange (T : Tx X.K X.mg) (hc : X.calm = true) (h : W X e S fun d => ∃ n : Nat, d = dN n ∧ n ≤ 100000 ∧ Q (.list ((List.range n).map dN))) (hg : Gl X "list" := by rfl) (hg2 : Gl X "range" := by rfl) (na : starEach [Expr.Call (.Name "range" pp) [e] [] p] X.env = (false, eval (Expr.Call (.Name "range" pp) [e] [] p) X.env) :: starEach [] X.env := by rfl)
    (na2 : starEach [e] X.env = (false, eval e X.env) :: starEach [] X.env := by rfl) : W X (.Call (.Name "list" px) [.Call (.Name "range" pp) [e] [] p] [] pos) S Q := fun ow H σ Q' st k => by
  refine PE.we (pe_listRg hc hg T.free (prg_1 hg2 T.free pe_W na2) na) ?_
  refine h ow H σ _ st fun d v ow1 H1 q st1 e1 i1 => ?_
  obtain ⟨n, rfl, hn, q⟩ := q
  cases i1
  refine ⟨_, rfl, .of_le (by omega) (by omega) (by omega) (by omega), fun a ha => ?_⟩
  have ex : Ex H1 (upd H1 a (.lst (rgV 0 (n : Int)))) := Evl.Ex.new ha
  refine k _ _ (nw ow1 H1) _ q (st1.ext ex) (e1.trans (.ext ex)) (.lst (pt_of (nw_new ha) upd_same) ?_)
  rw [rgV_ints]
  have e2 : (List.range n).map dN = ((List.range n).map fun (i : Nat) => ((i : Nat) : Int)).map PyData.int := by rw [List.map_map]; rfl
  rw [e2]
  exact IsA.of_ints _
/-- the keys, in a list's object -/
theorem vals_keys {P : Program} {w : World} {kvs : List (Key × V)} {vs : List (Key × Value)} {us : List Value} (rk : KV kvs vs) (hl : us.length = vs.length) (h : ∀ (j : Nat) (u : Value), us[j]? = some u → ∃ (k : Key) (x : Value), vs[j]? = some (k, x) ∧ (mixKind P w).is k u = true) : Vals (kvs.map fun kv => kV kv.1) us := by
  refine vals_of_at (by rw [List.length_map, hl]; exact Paired.length rk) fun j x u h1 h2 => ?_
  obtain ⟨k, y, hky, hi⟩ := h j u h2
  have e1 : (kvs.map (·.1))[j]? = some k := by
    rw [KV.keys rk, List.getElem?_map, hky] <;> rfl
  have e2 : (kvs.map fun kv => kV kv.1)[j]? = some (kV k) := by
    have e3 : (kvs.map fun kv => kV kv.1) = (kvs.map (·.1)).map kV := by rw [List.map_map] <;> rfl
    rw [e3, List.getElem?_map, e1] <;> rfl
  rw [e2] at h1
  cases h1
  exact keyIs_rel hi
/-- list(d) -/
theorem cd_listDic {ks : List (Int × D)} (hc : X.calm = true) (q : Q (.list ((keysD ks).map .int))) : CD X (.type "list") [dicD ks] Q := fun F H xs Q' f a k pins s σ us I r => by
  cases a with
  | cons h t =>
    cases t
    obtain ⟨a, kvs, ob, rfl, hF, ik⟩ := h.dicI
    rw [Vals.ref1 r]
    obtain ⟨_, z, lo, vs, rk, hd⟩ := (show ObjOk X.prog X.w H s.heap a (.frz ob (.dK kvs)) from I.hok a _ (f _ _ hF))
    obtain ⟨ep, hat⟩ := hd.dictAt
    have hl : kvs.length = vs.length := Paired.length rk
    refine PySem.W.kdl_call (PySem.W.kdl_dict (knd := mixKind X.prog X.w) (kvs := vs) (ep := ep) lo) (I.ok.hd hc) hat (by rw [← hl]; exact z) fun h' tk acc' c' hkeep hS hacc => ?_
    have hv : Vals (kvs.map fun kv => kV kv.1) acc'.toList := vals_keys rk (by rw [Array.length_toList]; exact hacc.1) fun j u hu => hacc.2 j u (by rw [← Array.getElem?_toList]; exact hu)
    refine ⟨.ref s.heap.objs.size, upd H s.heap.objs.size (.lst (kvs.map fun kv => kV kv.1)), I.laid hkeep (Nat.le_refl _) (show ObjOk X.prog X.w _ _ _ (.lst (kvs.map fun kv => kV kv.1)) from ⟨by rw [List.length_map]; exact z, acc'.toList, c', hv, by rw [Array.toArray_toList]; exact hS⟩), rfl, ?_⟩
    refine k.lst f (I.hok.fresh (Nat.le_refl _)) q ?_
    have e1 : kvs.map (fun kv => kV kv.1) = (keysD ks).map V.int := by rw [ik.kv]; unfold keysD; rw [List.map_map]; rfl
    rw [e1]
    exact IsA.of_ints _
theorem w_listDic (T : Tx X.K X.mg) (hc : X.calm = true) (h : W X e S fun d => ∃ ks, d = dicD ks ∧ Q (.list ((keysD ks).map .int))) (hg : Gl X "list" := by rfl) (he : starEach [e] X.env = (false, eval e X.env) :: starEach [] X.env := by rfl) : W X (.Call (.Name "list" p) [e] [] pos) S Q :=
  w_callT (T := "list") hg T.free (by decide +kernel) (wa_cons (h.mono fun d ⟨ks, ed, q⟩ => wa_nil (by subst ed; exact cd_listDic hc q)) he) (he := he)
/-- for k in d -/
theorem wi_keysD {QL : List D → Prop} (h : W X e S fun d => ∃ ks, d = dicD ks ∧ QL ((keysD ks).map .int)) : WI X tg e S b QL := fun ow H σ R st k => by
  refine PI.we (pi_keys pe_W) ?_
  refine h ow H σ _ st fun d v ow1 H1 q st1 e1 i1 => ?_
  obtain ⟨ks, rfl, q⟩ := q
  obtain ⟨a, kvs, ob, rfl, hF, ik⟩ := i1.dicI
  refine ⟨a, ob, rfl, .inl ⟨kvs, pt_le _ _ hF, k _ _ ow1 H1 q st1 e1 fun F' H' f1 f2 j => ?_⟩⟩
  have hl : kvs.length = ks.length := ik.length
  have hH : H' a = some (.frz ob (.dK kvs)) := f2 _ _ (f1 _ _ hF)
  have e2 : kvs.map (fun kv => kV kv.1) = (keysD ks).map V.int := by rw [ik.kv]; unfold keysD; rw [List.map_map]; rfl
  refine ⟨fun l => ⟨hH, ?_⟩, fun d hd => ⟨⟨hH, ?_⟩, fun x H2 y => ?_⟩⟩
  · unfold keysD at l
    rw [List.length_map, List.length_map] at l
    omega
  · have := (List.getElem?_eq_some_iff.mp hd).1
    unfold keysD at this
    rw [List.length_map, List.length_map] at this
    omega
  · obtain ⟨rfl, kk, vv, ek, rfl⟩ := y
    have e3 : (kvs.map fun kv => kV kv.1)[j]? = some (kV kk) := by rw [List.getElem?_map, ek]; rfl
    rw [e2, List.getElem?_map] at e3
    rw [List.getElem?_map] at hd
    cases e4 : (keysD ks)[j]? with
    | none =>
      rw [e4] at hd
      cases hd
    | some i =>
      rw [e4] at hd e3
      cases hd
      have e5 : V.int i = kV kk := Option.some.inj e3
      refine ⟨Evl.Ex.refl _, .inl ?_⟩
      rw [← e5]
      exact .int i
/-- sorted(d), d a slot's own dict -/
theorem w_sortedO (i : Nat) {ks : List (Int × D)} (T : Tx X.K X.mg) {kk : Nat} (hr : Rm kk X.A) (hc : X.calm = true) (hS : S[i]? = some (.odic ks)) (q : Q (.list ((srt PyData.int (keysD ks)).map .int))) (hN : X.N[i]? = some x := by rfl) (hv : Vis X.env.scope x := by first | exact Or.inl rfl | exact Or.inr (Or.inl rfl) | exact Or.inr (Or.inr rfl))
    (hd : (x == ("__debug__" : Str)) = false := by decide) (hcd : (x == ("__classdict__" : Str)) = false := by decide) (hg : Gl X "sorted" := by rfl) (he : starEach [Expr.Name x px] X.env = (false, eval (Expr.Name x px) X.env) :: starEach [] X.env := by rfl) : W X (.Call (.Name "sorted" p) [.Name x px] [] pos) S Q := fun ow H σ Q' st k => by
  have cr : CallR X (.builtin "sorted") (fun xs H Q => ∃ (a : Addr) (kvs : List (Key × V)) (ns : List Int), xs = [.ref a] ∧ H a = some (.dK kvs) ∧ kvs.map (fun kv => kV kv.1) = ns.map V.int ∧ ∀ q, H q = none → Q (.ref q) (upd H q (.lst ((srt PyData.int ns).map V.int)))) := by
    intro pins s σ H xs us Q I r h
    obtain ⟨a, kvs, ns, rfl, ha, hns, q⟩ := h
    rw [Vals.ref1 r]
    obtain ⟨z, lo, vs, rk, hd⟩ := (show ObjOk X.prog X.w H s.heap a (.dK kvs) from I.hok a _ ha)
    obtain ⟨ep, hat⟩ := hd.dictAt
    have hl : kvs.length = vs.length := Paired.length rk
    refine Calls.call_function_entry kind_sorted plain_sorted entry_sorted (args_sorted1 _) ?_
    unfold Builtin.«sorted»
    refine wpAny_bind (m := checkCount "sorted" 1 1 _) (wpAny_pure ?_)
    refine wpAny_bind (PySem.W.kdu_collect (A := X.A.in1) (PySem.W.kdl_dict (knd := mixKind X.prog X.w) (kvs := vs) (ep := ep) lo) (I.ok.hd hc) hat (by rw [← hl]; exact z) fun h' tk acc hk hacc => ?_)
    have hvals : Vals (kvs.map fun kv => kV kv.1) acc.toList := vals_keys rk (by rw [Array.length_toList]; exact hacc.1) fun j u hu => hacc.2 j u (by rw [← Array.getElem?_toList]; exact hu)
    rw [hns] at hvals
    have hlen : acc.toList.length = ns.length := by rw [← hvals.length, List.length_map]
    have hnl : ns.length = kvs.length := by
      have := congrArg List.length hns
      rw [List.length_map, List.length_map] at this
      exact this.symm
    refine wpAny_bind (wpAny_newList ?_ (by rw [hlen, hnl]; exact z))
    have hoL : (h'.push { cls := .type "list", data := .seq acc.toList.toArray }).get? h'.objs.size = some (seqObj "list" acc.toList.toArray 0) := Heap.get?_push_size _ rfl
    have eI : ∀ {us : List Value} {ms : List Int}, Vals (ms.map V.int) us → PySem.W.EachIs (fun (u : Value) (n : Int) => ∃ t, u = .int n t) us ms := by
      intro us ms
      induction ms generalizing us with
      | nil => intro h; cases h; exact .nil
      | cons m ms ih =>
        intro h
        cases h with
        | cons a b => exact .cons a (ih b)
    have e1 := eI hvals
    refine wpAny_bind (wpAny_holding (PySem.W.list_sort_data (A := X.A.in1) (s := { s with heap := h'.push { cls := .type "list", data := .seq acc.toList.toArray }, toks := tk }) (enc := PyData.int) (bs := ns) (R := fun (u : Value) (n : Int) => ∃ t, u = .int n t) hoL e1 (e1.mono fun u n ⟨t, e⟩ => ⟨[], by rw [e]; exact .int n t, fun h => nomatch h⟩) (PySem.W.AllAlike.of fun _ _ => rfl) (PySem.W.Sortable.others fun _ => ⟨fun h => (nomatch h), fun _ h => (nomatch h)⟩) (by rw [hnl]; exact z) (fun b _ => ?_) fun out a1 a2 => ?_))
    · have h2 := hr.1.un
      show X.A.units + 1 + 1 + 0 < _
      omega
    · obtain ⟨c, hc2⟩ := sortedHeap_at (vs := acc.toList) (out := out.toArray) hoL
      refine wpAny_pure ⟨_, rfl, ?_⟩
      have aI : ∀ {us : List Value} {ms : List Int}, PySem.W.EachIs (fun (u : Value) (n : Int) => ∃ t, u = .int n t) us ms → Vals (ms.map V.int) us := by
        intro us ms h
        induction h with
        | nil => exact .nil
        | cons a _ ih => exact .cons a ih
      have I1 : Inv X pins σ H { s with heap := h', toks := tk } := I.kept hk
      have keep : ∀ b o, h'.get? b = some o → (sortedHeap (h'.push { cls := .type "list", data := .seq acc.toList.toArray }) h'.objs.size acc.toList out.toArray).get? b = some o := fun b o q => by
        have hlt := Heap.lt_size q
        rw [sortedHeap_old (Nat.ne_of_lt hlt) (by rw [size_push']; exact Nat.lt_succ_of_lt hlt)]
        exact Heap.get?_push_of_some _ q
      refine ⟨.ref h'.objs.size, upd H h'.objs.size (.lst ((srt PyData.int ns).map V.int)), I1.laid (t' := tk) keep (Nat.le_refl _) ⟨?_, out, c, aI a2, hc2⟩, rfl, q _ I1.fresh⟩
      rw [List.length_map]
      unfold srt
      rw [List.length_mergeSort, hnl]
      exact z
  refine PE.we (pe_callB cr hg T.free (by decide +kernel) (pa_cons (pe_var hN hv hd hcd) pa_nil he) (he := he)) ?_
  obtain ⟨l, kvs, ev, g, o, ik⟩ := st.odic hS
  refine ⟨_, ev, l, kvs, keysD ks, rfl, g, by rw [ik.kv]; unfold keysD; rw [List.map_map]; rfl, fun a ha => ?_⟩
  have ex : Ex H (upd H a (.lst ((srt PyData.int (keysD ks)).map V.int))) := Evl.Ex.new ha
  exact k _ _ (nw ow H) _ q (st.ext ex) (.ext ex) (.lst (pt_of (nw_new ha) upd_same) (IsA.of_ints _))
end
end K3
end

section
set_option autoImplicit true
set_option Elab.async false
set_option linter.all false
set_option maxRecDepth 100000
set_option maxHeartbeats 1000000
/-! enumerate of a tuple. -/
namespace K3
open PySem PySem.Spec PyProof.Rows L2
theorem meets_enum1 {v : Value} {o : Obj} {H : Heap → Prop} (B : Begins v o H) :
    PySem.Meets (Builtin.«enumerate.__new__» ⟨[.type "enumerate", v], []⟩) (fun _ R s => H s.heap ∧
      R (.ok (.ret (.ref (s.heap.push o).objs.size))) { s with heap := (s.heap.push o).push { cls := .type "enumerate", data := .fields #[.none, .bool false, .ref s.heap.objs.size, rawInt 0, .none, .none] } }) :=
  .of_wp fun prog w A R s h => by
    obtain ⟨hp, g, d, tk, os⟩ := s
    obtain ⟨h1, h⟩ := h
    have hsub := sub_enumerate
    have q1 : ∀ {A' : Around} {E : Value → Shared → Prop} {Q : Value → Shared → Prop}, Q (.ref hp.objs.size) ⟨hp.push o, g, d, tk, os⟩ → wpAny (model prog w) A' (pyIter v) Q E ⟨hp, g, d, tk, os⟩ :=
      fun q => B.iter prog w _ _ ⟨hp, g, d, tk, os⟩ _ h1 q
    wp_walk using q1
    refine wpAny_stack_any fun st => wpAny_pure ?_
    split
    · rename_i c _ _ _ _ _
      cases (c == Value.type "enumerate")
      · wp_walk using q1
        exact ⟨_, rfl, h⟩
      · wp_walk using q1
        exact ⟨_, rfl, h⟩
    · wp_walk using q1
      exact ⟨_, rfl, h⟩
theorem call_enumT {prog : Program} {w : World} {A : Around} {E : Value → Shared → Prop} {s : Shared} {t : Addr} {items : Array Value} {Q : Value → Shared → Prop} (hT : s.heap.IsTuple t items)
    (h : ∀ h', IsEnum h' (s.heap.objs.size + 1) s.heap.objs.size 0 .none → h'.IsTupleIter s.heap.objs.size t 0 → h'.objs.size = s.heap.objs.size + 2 →
      (∀ b o, s.heap.get? b = some o → h'.get? b = some o) → Q (.ref (s.heap.objs.size + 1)) { s with heap := h' }) :
    wpAny (model prog w) A (call (.type "enumerate") [.ref t]) Q E s := by
  refine callType_new F.called_enumerate (by decide) (F.typeCall_enumerate_1 _) (F.newCall_enumerate_1 _) (fun obj => F.args_object_init_2 obj _) F.entry_enumerate_new
    (meets_enum1 (begins_tuple t items)) ⟨hT, ?_⟩
  have hz : (s.heap.push { cls := .type "tuple_iterator", data := .fields #[.ref t, .int 0 0] }).objs.size = s.heap.objs.size + 1 := Heap.size_push ..
  show _ ∧ _
  rw [hz]
  have he : IsEnum ((s.heap.push { cls := .type "tuple_iterator", data := .fields #[.ref t, .int 0 0] }).push
      { cls := .type "enumerate", data := .fields #[.none, .bool false, .ref s.heap.objs.size, rawInt 0, .none, .none] }) (s.heap.objs.size + 1) s.heap.objs.size 0 .none := by
    have := Heap.get?_push_size (s.heap.push { cls := .type "tuple_iterator", data := .fields #[.ref t, .int 0 0] })
      (o := { cls := .type "enumerate", data := .fields #[.none, .bool false, .ref s.heap.objs.size, rawInt 0, .none, .none] }) rfl
    rw [hz] at this
    exact this
  exact ⟨⟨_, he, rfl⟩, h _ he ⟨_, Heap.get?_push_of_some _ (Heap.get?_push_size _ rfl), rfl, rfl⟩ (by rw [Heap.size_push, hz]) fun b o x => Heap.get?_push_of_some _ (Heap.get?_push_of_some _ x)⟩
def IteT (K : PySem.W.Frag) (a : Addr) : It :=
  ⟨fun i H => ∃ (xs : List V) (x : V), SqT K H a xs ∧ xs[i]? = some x, fun i H v H' => ∃ T x, v = .ref T ∧ H T = none ∧ H' = upd H T (.tup [.int (i : Nat), x]) ∧ ∀ xs, SqT K H a xs → xs[i]? = some x, fun i H => ∃ xs : List V, SqT K H a xs ∧ xs.length ≤ i⟩
theorem isTuple_of {h : Heap} {t : Addr} {its : Array Value} (x : IsTup h t its) : h.IsTuple t its := x
theorem turn_enumT {P : Program} {w : World} {K : PySem.W.Frag} {elts : List Expr} {kk : Nat} {tpos : Pos} (a e it : Addr) :
    Turn P w K (.Tuple elts kk tpos) (IteT K a) [e, it] e (fun i h => (∃ old, IsEnum h e it ((i : Nat) : Int) old) ∧ h.IsTupleIter it a i ∧ e ≠ it ∧ a ≠ it ∧ e ≠ a) where
  mem := by simp
  obj := fun i h st b hb => by
    obtain ⟨⟨old, he⟩, ⟨o, ho, hc, hd⟩, _⟩ := st
    have e' : b = e ∨ b = it := by simpa using hb
    rcases e' with z | z
    · rw [z]; exact ⟨_, he, fun v q => nomatch q⟩
    · rw [z]; exact ⟨o, ho, fun v q => by rw [hd] at q; cases q⟩
  keep := fun i h h' st k => let ⟨⟨old, he⟩, hi, hne⟩ := st; ⟨⟨old, k e (by simp) _ he⟩, hi.at fun o q => k it (by simp) o q, hne⟩
  item := by
    intro X hP hw hK hc i pins s σ H E I hf st hg
    subst hP hw hK
    obtain ⟨⟨old, he⟩, hit, hne, hai, hea⟩ := st
    obtain ⟨xs, x, hq, hx⟩ := hg
    obtain ⟨its, rv, p, hz⟩ := I.tuple hq
    obtain ⟨u, hu, ru⟩ := rv.get hx
    have hel : e < s.heap.objs.size := Heap.lt_size he
    have hil : it < s.heap.objs.size := by obtain ⟨_, q, _⟩ := hit; exact Heap.lt_size q
    have hlt : i < its.toArray.size := by
      rw [List.size_toArray]
      exact (List.getElem?_eq_some_iff.mp hu).1
    refine wpAny_pyNext_enum_itemC (Draws.tuple (prog := X.prog) (w := X.w) (A := X.A.in1) (I.ok.hd hc) it a hai its.toArray) he ⟨hit, isTuple_of p⟩ hlt hne (by simp [hne, hea]) fun x' h' tk hx' ho hst hT hsz hk => ?_
    have eu : x' = u := by
      have h1 : its[i]? = some x' := by simpa using hx'
      rw [hu] at h1
      exact (Option.some.inj h1).symm
    subst eu
    refine ⟨_, rfl, wpAny_letOwnedTupleGo_enum (s := { s with heap := h', toks := tk + 1 }) ho fun h'' he' sb => ?_⟩
    have hT2 : h''.get? s.heap.objs.size = some { cls := .type "tuple", data := .seq #[.int i tk, x'] } := (sb.2 _ (Nat.ne_of_gt hel)).trans hT
    have new : ObjOk X.prog X.w (upd H s.heap.objs.size (.tup [.int (i : Nat), x])) h'' s.heap.objs.size (.tup [.int (i : Nat), x]) :=
      ⟨by show 2 ≤ sizeLine; decide, [.int i tk, x'], .cons ⟨_, rfl⟩ (.cons ru .nil), ⟨_, hT2, rfl, _, rfl⟩⟩
    have I1 : Inv X pins σ (upd H s.heap.objs.size (.tup [.int (i : Nat), x])) { s with heap := h'', toks := tk + 1 } :=
      I.turnedNew (ch := [e, it]) (fun b ob hb q => (sb.2 b (fun z => hb (by simp [z]))).trans (hk b ob (fun z => hb (by simp [z])) (fun z => hb (by simp [z])) q)) hf (Nat.le_refl _) new
    refine ⟨.ref s.heap.objs.size, _, I1, rfl, ⟨_, x, rfl, I.hok.fresh (Nat.le_refl _), rfl, fun ys hy => by rw [I.tuple_inj hy hq]; exact hx⟩, ⟨⟨x', ?_⟩, hst.1.at fun o q => (sb.2 it (Ne.symm hne)).trans q, hne, hai, hea⟩, fun b hb => ?_⟩
    · have e1 : ((i + 1 : Nat) : Int) = (i : Int) + 1 := by omega
      rw [e1]; exact he'
    · have hb' : b < s.heap.objs.size := by
        have e' : b = e ∨ b = it := by simpa using hb
        rcases e' with z | z
        · rw [z]; exact hel
        · rw [z]; exact hil
      rw [upd_ne (Nat.ne_of_lt hb')]
      exact (hf b hb).1
  done := by
    intro X hP hw hK hc i pins s σ H E I hf st hg
    subst hP hw hK
    obtain ⟨⟨old, he⟩, hit, hne, hai, hea⟩ := st
    obtain ⟨xs, hq, hx⟩ := hg
    obtain ⟨its, rv, p, hz⟩ := I.tuple hq
    obtain ⟨f0, f1, f2, f3, f4, f5⟩ := hf it (by simp)
    have hl := rv.length
    unfold pyNext
    refine wpAny_bind (wpAny_attempt (wpAny_callSpecial?_slot (name := Str.ofString "__next__") ⟨_, he, rfl⟩ F.slot_enumerate_next
      (wpAny_call_entry F.slot_enumerate_next ⟨_, he, rfl⟩ F.entry_enumerate_next ?_ (F.args_enumerate_next_1 _))))
    show wpAny _ _ (field (.ref e) 2 >>= _) _ _ _
    refine wpAny_bind (wpAny_field he rfl (x := .ref it) rfl ?_)
    refine wpAny_bind (wpAny_nextOf_tuple_end (I.ok.hd hc) hit (isTuple_of p) (by simp; omega) fun h' x eb hx' => ?_)
    obtain ⟨o, ho, hc'⟩ := hx'
    refine wpAny_bind (wpAny_isInstance (T := "StopIteration") (b := true) ⟨o, ho, hc'⟩ isSubtype_stop ?_)
    exact wpAny_pure ⟨rfl, I.turned (t' := s.toks) (fun b o hb q => eb b o hb q) f0 f1 f3 f4 f5⟩
  self := fun A i s Q E st h => let ⟨⟨_, he⟩, _⟩ := st; wpAny_pyIter_enum he h
end K3
end

section
set_option autoImplicit true
set_option Elab.async false
set_option linter.all false
set_option maxRecDepth 100000
set_option maxHeartbeats 1000000
/-! enumerate of a tuple; dict of pairs; d != {}; dict comprehensions. -/
namespace K3
open PySem PySem.Spec PyProof.Rows L2
section
variable {X : Cx} {S : Sto X.K} {Q : D → Prop} {e e2 o : Expr} {es : List Expr} {pos p pp : Pos} {x : Str} {px : Pos} {b : Bool}
def iEnumT (K : PySem.W.Frag) (ta : TA) : TI := fun σ H R => ta σ H fun vs H1 => ∃ a xs, vs = [.ref a] ∧ SqT K H1 a xs ∧ R (IteT K a) H1
theorem pi_enumT {ta : TA} {tpos : Pos} {elts : List Expr} {kk : Nat} (hg : Gl X "enumerate") (hm : X.mg "enumerate" = none) (ha : PA X [e] ta) (hs : starEach [e] X.env = [(false, eval e X.env)] := by rfl) :
    PI X (.Tuple elts kk tpos) (.Call (.Name "enumerate" p) [e] [] pos) (iEnumT X.K ta) := by
  refine ⟨fun pins s σ H R I h => ?_⟩
  refine Call_ (ld_blt I hg hm boot_enumerate (PyProof.Rows.callWith_type1 (thn (ha.run pos pins s σ H _ I h) fun us s1 ⟨vs, H1, I1, r1, q1⟩ => ?_) hs rfl))
  obtain ⟨a, xs, ex, hq, q⟩ := q1
  subst ex
  cases r1 with
  | cons r rr =>
    cases rr
    cases r
    obtain ⟨its, rv, p', hz⟩ := I1.tuple hq
    have hlt : a < s1.heap.objs.size := by obtain ⟨_, q, _⟩ := p'; exact Heap.lt_size q
    refine call_enumT (isTuple_of p') fun h' he hit hsz hk => wpAny_pyIter_enum he ?_
    have I2 : Inv X pins σ H1 { s1 with heap := h' } := I1.kept (t' := s1.toks) hk
    refine ⟨s1.heap.objs.size + 1, [s1.heap.objs.size + 1, s1.heap.objs.size], _, _, H1, rfl, I2, turn_enumT a (s1.heap.objs.size + 1) s1.heap.objs.size, ⟨⟨.none, he⟩, hit, Nat.succ_ne_self _, Nat.ne_of_lt hlt, Nat.ne_of_gt (Nat.lt_succ_of_lt hlt)⟩, fun b hb => ?_, q⟩
    have e' : b = s1.heap.objs.size + 1 ∨ b = s1.heap.objs.size := by simpa using hb
    rcases e' with rfl | rfl
    · exact I1.fpOk (Nat.le_succ _) (I1.hok.fresh (Nat.le_succ _))
    · exact I1.fpOk (Nat.le_refl _) (I1.hok.fresh (Nat.le_refl _))
/-- enumerate of a tuple -/
theorem wi_enumT {QL : List D → Prop} {tpos : Pos} {elts : List Expr} {kk : Nat} (T : Tx X.K X.mg) (h : W X e S fun d => ∃ xs, d = .tuple xs ∧ QL (xs.zipIdx.map fun p => .tuple [.int (p.2 : Int), p.1])) (hg : Gl X "enumerate" := by rfl)
    (hs : starEach [e] X.env = [(false, eval e X.env)] := by rfl) : WI X (.Tuple elts kk tpos) (.Call (.Name "enumerate" pp) [e] [] pos) S false QL := fun ow H σ R st k => by
  refine PI.we (pi_enumT hg T.free (pa_cons pe_W pa_nil hs) hs) ?_
  refine h ow H σ _ st fun d v ow1 H1 q st1 e1 i1 => ?_
  obtain ⟨xs, rfl, q⟩ := q
  cases i1 with
  | @tup a us _ p1 a1 =>
    refine ⟨a, us, rfl, (p1.mono pt_le).sq, k _ _ ow1 H1 q st1 e1 fun F' H f1 f2 i => ?_⟩
    have s1 : SqT X.K H a us := (p1.mono (f1.trans f2)).sq
    have l1 := a1.length
    refine ⟨fun l => ⟨us, s1, ?_⟩, fun d hd => ?_⟩
    · rw [List.length_map, List.length_zipIdx] at l
      omega
    · rw [List.getElem?_map] at hd
      cases ez : xs.zipIdx[i]? with
      | none =>
        rw [ez] at hd
        cases hd
      | some pr =>
        obtain ⟨x, j⟩ := pr
        rw [ez] at hd
        cases hd
        rw [List.getElem?_zipIdx] at ez
        cases ex : xs[i]? with
        | none =>
          rw [ex] at ez
          cases ez
        | some x' =>
          rw [ex] at ez
          simp only [Option.map_some, Option.some.injEq, Prod.mk.injEq] at ez
          obtain ⟨rfl, rfl⟩ := ez
          obtain ⟨v1, b1, c1⟩ := a1.get ex
          refine ⟨⟨us, v1, s1, b1⟩, fun z H' hy => ?_⟩
          obtain ⟨T, x'', rfl, hT, rfl, q1⟩ := hy
          have z1 := q1 us s1
          rw [b1] at z1
          cases z1
          refine ⟨Evl.Ex.new hT, .inr ⟨rfl, T, _, _, rfl, rfl, upd_same, ?_⟩⟩
          have f3 := f1.trans (cut_le f2 (Evl.Ex.new (o := .tup [.int (i : Nat), v1]) hT))
          refine .cons ?_ (.cons (c1.mono f3) .nil)
          show Is X.K _ (.int ((i : Nat) : Int)) (.int (((0 + i : Nat)) : Int))
          rw [Nat.zero_add]
          exact .int _
/-! ### dict(pairs) -/
def pairD (p : Int × D) : D := .tuple [.int p.1, p.2]
theorem pairs_of {K : PySem.W.Frag} {F : Hp} : ∀ {vs : List V} {ks : List (Int × D)}, IsA K F vs (ks.map pairD) → ∃ (ps : List Addr) (kvs : List (Key × V)), vs = ps.map V.ref ∧ Paired (fun p kv => ∃ xs, Pt F p xs ∧ xs = [kV kv.1, kv.2]) ps kvs ∧ IsK K F kvs ks
  | vs, [], h => by
    have h' : IsA K F vs [] := h
    cases h'
    exact ⟨[], [], rfl, .nil, .nil⟩
  | vs, (n, d) :: ks, h => by
    have h' : IsA K F vs (.tuple [.int n, d] :: ks.map pairD) := h
    cases h' with
    | cons h1 h2 =>
      obtain ⟨ps, kvs, rfl, hp, hk⟩ := pairs_of h2
      cases h1 with
      | @tup a xs _ p a1 =>
        cases a1 with
        | cons b1 b2 =>
          cases b2 with
          | @cons v _ _ _ b3 b4 =>
            cases b4
            cases b1
            exact ⟨a :: ps, (Sum.inl n, v) :: kvs, rfl, .cons ⟨_, p, rfl⟩ hp, .cons b3 hk⟩
theorem putD_new {ks : List (Int × D)} {n : Int} {d : D} (h : n ∉ keysD ks) : putD ks n d = ks ++ [(n, d)] := by
  unfold putD
  rw [if_neg]
  intro c
  obtain ⟨p, hp, e⟩ := List.any_eq_true.mp c
  exact h (List.mem_map.mpr ⟨p, hp, of_decide_eq_true e⟩)
theorem IsK.merge {K : PySem.W.Frag} {F : Hp} : ∀ {kvs : List (Key × V)} {ks : List (Int × D)} {acc : List (Key × V)} {ac : List (Int × D)}, IsK K F acc ac → IsK K F kvs ks → (keysD (ac ++ ks)).Nodup → IsK K F (mergeK acc kvs) (ac ++ ks)
  | _, _, acc, ac, h, .nil, _ => by
    rw [List.append_nil]
    exact h
  | _, _, acc, ac, h, .cons (k := k) (v := v) (kvs := kvs) (d := d) (ks := ks) h1 h2, nd => by
    have hn : k ∉ keysD ac := by
      unfold keysD at nd ⊢
      rw [List.map_append, List.map_cons] at nd
      intro c
      have := (List.nodup_append.mp nd).2.2 k c k List.mem_cons_self
      exact this rfl
    have h3 := h.put k h1
    rw [putD_new hn] at h3
    have e1 : ac ++ (k, d) :: ks = (ac ++ [(k, d)]) ++ ks := by rw [List.append_assoc]; rfl
    rw [e1] at nd ⊢
    show IsK K F (mergeK (putK acc (Sum.inl k) v) kvs) _
    exact IsK.merge h3 h2 nd
/-- dict(e), e a list of pairs whose keys are ints, each once -/
theorem w_dictP (T : Tx X.K X.mg) (hc : X.calm = true) (h : W X e S fun d => ∃ ks : List (Int × D), d = .list (ks.map pairD) ∧ (keysD ks).Nodup ∧ Q (dicD ks)) (hg : Gl X "dict" := by rfl) (he : starEach [e] X.env = (false, eval e X.env) :: starEach [] X.env := by rfl) : W X (.Call (.Name "dict" p) [e] [] pos) S Q := fun ow H σ Q' st k => by
  refine we_lock (Q1 := fun v H' => ∃ (d : Addr) (kvs : List (Key × V)) (ks : List (Int × D)) (ow1 : Addr → Nat) (H1 : Hp), v = .ref d ∧ H1 d = none ∧ H' = upd H1 d (.dK kvs) ∧ IsK X.K (fz ow1 H1) kvs ks ∧ Std X.K ow1 H1 σ S ∧ Stp S.length ow H ow1 H1 ∧ Q (dicD ks))
    (PE.we (pe_callTy (call_dictP hc) hg T.free (by decide +kernel) (pa_cons pe_W pa_nil he) (he := he)) ?_) fun v H' ⟨d, kvs, ks, ow1, H1, ev, hd, eH, ik, st1, e1, q⟩ => ?_
  · refine h ow H σ _ st fun d v ow1 H1 q st1 e1 i1 => ?_
    obtain ⟨ks, rfl, nd, q⟩ := q
    cases i1 with
    | @lst a vs _ p a1 =>
      obtain ⟨ps, kvs, rfl, hp, hk⟩ := pairs_of a1
      have hp2 : Paired (fun p kv => SqT X.K H1 p [kV kv.1, kv.2]) ps kvs := Paired.mapP hp fun p kv ⟨xs, h1, h2⟩ => by
        rw [← h2]
        exact (h1.mono pt_le).sq
      refine ⟨a, ps, kvs, rfl, SqL.of (pt_le _ _ p), hp2, fun d hd => ⟨d, _, ks, ow1, H1, rfl, hd, rfl, ?_, st1, e1, q⟩⟩
      have := IsK.merge (K := X.K) (F := fz ow1 H1) (acc := []) (ac := []) .nil hk (by simpa using nd)
      simpa using this
  · subst ev eH
    refine ⟨d, _, upd_same, trivial, fun od => ?_⟩
    rw [upd_upd]
    have ex : Ex H1 (upd H1 d (.frz od (.dK kvs))) := Evl.Ex.new hd
    exact k _ _ (nw ow1 H1) _ q (st1.ext ex) (e1.trans (.ext ex)) (.dic ⟨od, pt_of (nw_new hd) upd_same⟩ (ik.mono (fz_le ex)))
/-- d != {} -/
theorem od_neDic {ks : List (Int × D)} (hu : X.A.units < cLine) (q : Q (.bool (!decide (ks = [])))) : OD X (compareOp .NotEq) (dicD ks) (dicD []) Q := fun F H x y Q' f i1 i2 k pins s σ v u I rx ry => by
  obtain ⟨a, ka, oa, rfl, ha, iha⟩ := i1.dicI
  obtain ⟨b, kb, ob, rfl, hb, ihb⟩ := i2.dicI
  cases rx
  cases ry
  cases ihb
  obtain ⟨_, _, ya, va, ra, da⟩ := (show ObjOk X.prog X.w H s.heap a (.frz oa (.dK ka)) from I.hok a _ (f _ _ ha))
  obtain ⟨_, _, yb, vb, rb, db⟩ := (show ObjOk X.prog X.w H s.heap b (.frz ob (.dK [])) from I.hok b _ (f _ _ hb))
  have hl : vb = [] := by cases rb; rfl
  subst hl
  have hla : va.length = ks.length := by rw [← iha.length]; exact (Paired.length ra).symm
  refine PySem.W.keq_ne (knd := mixKind X.prog X.w) (r := true) ya yb da db hu (fun hlen => ?_) ⟨.bl _, H, I, rfl, ?_⟩
  · have : va = [] := List.eq_nil_of_length_eq_zero hlen
    rw [this]
    exact .nil
  · have e1 : (!(va.length == ([] : List (Key × Value)).length && true)) = !decide (ks = []) := by
      rw [Bool.and_true, hla]
      cases ks with
      | nil => rfl
      | cons p ks => rfl
    rw [e1]
    exact k.bool q
end
end K3
end

section
set_option autoImplicit true
set_option Elab.async false
set_option linter.all false
set_option maxRecDepth 100000
set_option maxHeartbeats 1000000
/-! d[k], x = e, e2. -/
namespace K3
open PySem PySem.Spec PyProof.Rows L2
section
variable {X : Cx} {S : Sto X.K} {D0 : De X.K} {e e2 ik : Expr} {pos spos py ptt p2 : Pos} {x y : Str} {px : Pos} {kt k2 : Nat}
theorem ws_tupDN (i j : Nat) {ks : List (Int × D)} (nd : X.N.Nodup) (hu : X.A.units + 1 < cLine) (hij : i ≠ j) (hS : S[i]? = some (.odic ks)) (hz : ks.length < 100000)
    (h : W X e S fun a => W X e2 S fun b => W X ik S fun z => ∃ n : Int, z = .int n ∧ D0.nx ((S.set i (.odic (putD ks n a))).set j (.dat b)))
    (hj : Nat.blt j S.length = true := by rfl) (hc : X.calm = true := by rfl) (hN : X.N[i]? = some x := by rfl) (hv : Vis X.env.scope x := by first | exact Or.inl rfl | exact Or.inr (Or.inl rfl) | exact Or.inr (Or.inr rfl))
    (hd : (x == ("__debug__" : Str)) = false := by decide) (hcd : (x == ("__classdict__" : Str)) = false := by decide)
    (hN2 : X.N[j]? = some y := by rfl) (hy : Loc X.env.scope y := by first | exact Or.inl rfl | exact Or.inr rfl) (hf : X.fn y = true ∨ X.env.scope.names.lookup y = some .local := by first | exact .inl rfl | exact .inr rfl)
    (he : starEach [e, e2] X.env = (false, eval e X.env) :: starEach [e2] X.env := by rfl) (he2 : starEach [e2] X.env = (false, eval e2 X.env) :: starEach [] X.env := by rfl)
    (hn : (assignEach [.Subscript (.Name x px) ik spos, .Name y py] X.env).length = 2 := by rfl) (hst : (assignEach [.Subscript (.Name x px) ik spos, .Name y py] X.env).findIdx? (·.1) = none := by rfl)
    (hm1 : (assignEach [.Subscript (.Name x px) ik spos, .Name y py] X.env).map (·.2) = assign (.Subscript (.Name x px) ik spos) X.env :: (assignEach [.Name y py] X.env).map (·.2) := by rfl)
    (hm2 : (assignEach [.Name y py] X.env).map (·.2) = assign (.Name y py) X.env :: (assignEach [] X.env).map (·.2) := by rfl)
    (hs : swapsWithSole [.Tuple [.Subscript (.Name x px) ik spos, .Name y py] kt ptt] (.Tuple [e, e2] k2 p2) pos.line X.env = pure false := by rfl) (hw : swappedStores [.Tuple [.Subscript (.Name x px) ik spos, .Name y py] kt ptt] (.Tuple [e, e2] k2 p2) X.env = pure none := by rfl)
    (h1 : (assignEach [.Tuple [.Subscript (.Name x px) ik spos, .Name y py] kt ptt] X.env).map (·.2) = [assign (.Tuple [.Subscript (.Name x px) ik spos, .Name y py] kt ptt) X.env] := by rfl)
    (ha : ∀ v, assign (.Subscript (.Name x px) ik spos) X.env v = (do
      let ov ← holding [v] (eval (.Name x px) X.env)
      let iv ← holding [v, ov] (eval ik X.env)
      standAt spos
      holding [v, ov, iv] (setItem ov iv v)
      release [v, ov, iv] []) := by intro _; rfl) :
    WS X (.Assign [.Tuple [.Subscript (.Name x px) ik spos, .Name y py] kt ptt] (.Tuple [e, e2] k2 p2) pos) S D0 := fun ow H σ E st m => by
  refine PS.we (ps_asg (pe_tup (pa_cons pe_W (pa_cons pe_W pa_nil he2) he)) (pg_tup hc (pgs_cons (pg_sub (pe_var hN hv hd hcd) pe_W (set_dict hu) ha) (pgs_cons (pg_name (i := j) nd hN2 hy hf) pgs_nil hm2) hm1) hn hst) hs hw h1) ?_
  refine h ow H σ _ st fun a va ow1 H1 q1 st1 e1 i1 => ?_
  refine q1 ow1 H1 σ _ st1 fun b vb ow2 H2 q2 st2 e2' i2 => ?_
  refine ⟨by show 2 ≤ sizeLine; decide, fun p hp => ?_⟩
  have ex : Ex H2 (upd H2 p (.tup [va, vb])) := Evl.Ex.new hp
  have st3 := st2.ext ex
  have e3 : Stp S.length ow2 H2 (nw ow2 H2) (upd H2 p (.tup [va, vb])) := .ext ex
  refine ⟨p, _, rfl, SqT.of upd_same, rfl, va, [vb], rfl, ?_⟩
  obtain ⟨l, kvs, ev, g, o, ik'⟩ := st3.odic hS
  refine ⟨_, ev, ?_⟩
  refine q2 (nw ow2 H2) _ σ _ st3 fun z vz ow4 H4 q4 st4 e4 i4 => ?_
  obtain ⟨n, rfl, q4⟩ := q4
  cases i4
  obtain ⟨l4, kvs4, ev4, g4, o4, ik4⟩ := st4.odic hS
  rw [ev] at ev4
  cases ev4
  have hi : i < S.length := (List.getElem?_eq_some_iff.mp hS).1
  refine ⟨l, _, rfl, DPut.k (k := Sum.inl n) g4 (Nat.lt_of_lt_of_le (by rw [ik4.length]; exact hz) (by decide : 100000 ≤ sizeLine)), ?_⟩
  have iva := (i1.mono (e2'.fz.trans (e3.fz.trans e4.fz)))
  obtain ⟨st5, e5⟩ := st4.upd (o := .dK (putK kvs4 (Sum.inl n) va)) o4 hi (some_ne g4) (odic_ok ev o4 (ik4.put n iva))
  refine ⟨vb, [], rfl, ⟨rfl, ?_⟩⟩
  have st6 := st5.set (i := j) (v := vb) (d := b) (by rw [List.length_set]; exact Nat.le_of_ble_eq_true hj) (i2.mono (e3.fz.trans (e4.fz.trans e5.fz)))
  exact m.nx _ ow4 _ _ q4 (by rw [List.length_set, List.length_set]) st6 (e1.trans (e2'.trans (e3.trans (e4.trans e5))))
end
/-! ### association lists -/
def encA {α : Type} (f : α → D) (M : List (Nat × α)) : List (Int × D) := M.map fun x => ((x.1 : Int), f x.2)
def lookM {α : Type} (M : List (Nat × α)) (k : Nat) : Option α := (M.find? fun x => decide (x.1 = k)).map (·.2)
def putM {α : Type} (M : List (Nat × α)) (k : Nat) (a : α) : List (Nat × α) := if (M.any fun x => decide (x.1 = k)) = true then M.map (fun x => if x.1 = k then (x.1, a) else x) else M ++ [(k, a)]
section
variable {α : Type} {f : α → D}
theorem lookD_encA : ∀ (M : List (Nat × α)) (k : Nat), lookD (encA f M) (k : Int) = (lookM M k).map f
  | [], k => rfl
  | (n, a) :: M, k => by
    have ih := lookD_encA M k
    unfold lookD lookM encA at ih ⊢
    rw [List.map_cons, List.find?_cons, List.find?_cons]
    by_cases e : n = k
    · rw [decide_eq_true (show ((n, a) : Nat × α).1 = k from e), decide_eq_true (show (((n : Int), f a) : Int × D).1 = (k : Int) from congrArg Int.ofNat e)]
      rfl
    · rw [decide_eq_false (show ¬ ((n, a) : Nat × α).1 = k from e), decide_eq_false (show ¬ (((n : Int), f a) : Int × D).1 = (k : Int) from fun h => e (Int.ofNat.inj h))]
      exact ih
theorem any_encA (M : List (Nat × α)) (k : Nat) : ((encA f M).any fun p => decide (p.1 = (k : Int))) = (M.any fun x => decide (x.1 = k)) := by
  unfold encA
  rw [List.any_map]
  congr 1
  funext x
  simp only [Function.comp, decide_eq_decide]
  exact ⟨fun h => Int.ofNat.inj h, fun h => congrArg Int.ofNat h⟩
theorem putD_encA (M : List (Nat × α)) (k : Nat) (a : α) : putD (encA f M) (k : Int) (f a) = encA f (putM M k a) := by
  unfold putD putM
  rw [any_encA]
  split
  · unfold encA
    rw [List.map_map, List.map_map]
    refine List.map_congr_left fun x _ => ?_
    simp only [Function.comp]
    by_cases e : x.1 = k
    · rw [if_pos (show (x.1 : Int) = (k : Int) from congrArg Int.ofNat e), if_pos e]
    · rw [if_neg (show ¬ (x.1 : Int) = (k : Int) from fun h => e (Int.ofNat.inj h)), if_neg e]
  · unfold encA
    rw [List.map_append]
    rfl
theorem keysD_encA (M : List (Nat × α)) : keysD (encA f M) = (M.map (·.1)).map fun (n : Nat) => ((n : Nat) : Int) := by
  unfold keysD encA
  rw [List.map_map, List.map_map]
  rfl
theorem lookM_isSome (M : List (Nat × α)) (k : Nat) : (lookM M k).isSome = decide (k ∈ M.map (·.1)) := by
  induction M with
  | nil => rfl
  | cons x M ih =>
    unfold lookM at ih ⊢
    rw [List.find?_cons]
    by_cases e : x.1 = k
    · rw [decide_eq_true e]
      exact (decide_eq_true (by rw [List.map_cons, e]; exact List.mem_cons_self)).symm
    · rw [decide_eq_false e]
      show ((M.find? fun x => decide (x.1 = k)).map (·.2)).isSome = _
      rw [ih, decide_eq_decide, List.map_cons, List.mem_cons]
      exact ⟨fun h => .inr h, fun h => h.resolve_left fun h => e h.symm⟩
theorem lookM_mem {M : List (Nat × α)} {k : Nat} {a : α} (h : lookM M k = some a) : (k, a) ∈ M := by
  unfold lookM at h
  cases e : M.find? fun x => decide (x.1 = k) with
  | none =>
    rw [e] at h
    cases h
  | some x =>
    rw [e] at h
    have h1 := List.mem_of_find?_eq_some e
    have h2 : x.1 = k := of_decide_eq_true (List.find?_some (p := fun x : Nat × α => decide (x.1 = k)) e)
    have h3 : x.2 = a := Option.some.inj h
    rw [← h2, ← h3]
    exact h1
theorem lookM_of {M : List (Nat × α)} {k : Nat} (h : k ∈ M.map (·.1)) : ∃ a, lookM M k = some a := by
  have := lookM_isSome M k
  rw [decide_eq_true h] at this
  exact Option.isSome_iff_exists.mp this
theorem lookM_nodup {M : List (Nat × α)} (nd : (M.map (·.1)).Nodup) {k : Nat} {a : α} (h : (k, a) ∈ M) : lookM M k = some a := by
  induction M with
  | nil => cases h
  | cons x M ih =>
    rw [List.map_cons, List.nodup_cons] at nd
    unfold lookM
    rw [List.find?_cons]
    rcases List.mem_cons.mp h with e | h
    · subst e
      rw [decide_eq_true rfl]
      rfl
    · have : ¬ x.1 = k := fun e => nd.1 (by rw [e]; exact List.mem_map.mpr ⟨(k, a), h, rfl⟩)
      rw [decide_eq_false this]
      exact ih nd.2 h
theorem putM_keys {M : List (Nat × α)} {k : Nat} {a : α} : (putM M k a).map (·.1) = if k ∈ M.map (·.1) then M.map (·.1) else M.map (·.1) ++ [k] := by
  unfold putM
  by_cases c : k ∈ M.map (·.1)
  · rw [if_pos c, if_pos]
    · rw [List.map_map]
      refine List.map_congr_left fun x _ => ?_
      simp only [Function.comp]
      split <;> rfl
    · obtain ⟨x, hx, e⟩ := List.mem_map.mp c
      exact List.any_eq_true.mpr ⟨x, hx, decide_eq_true e⟩
  · rw [if_neg c, if_neg]
    · rw [List.map_append]
      rfl
    · intro h
      obtain ⟨x, hx, e⟩ := List.any_eq_true.mp h
      exact c (List.mem_map.mpr ⟨x, hx, of_decide_eq_true e⟩)
theorem putM_mem {M : List (Nat × α)} {k : Nat} {a : α} {x : Nat × α} (h : x ∈ putM M k a) : (x = (k, a)) ∨ (x ∈ M ∧ x.1 ≠ k) := by
  unfold putM at h
  split at h
  · obtain ⟨y, hy, e⟩ := List.mem_map.mp h
    by_cases c : y.1 = k
    · rw [if_pos c] at e
      left
      rw [← e, c]
    · rw [if_neg c] at e
      right
      rw [← e]
      exact ⟨hy, c⟩
  · rename_i c
    rcases List.mem_append.mp h with h | h
    · right
      exact ⟨h, fun e => c (List.any_eq_true.mpr ⟨x, h, decide_eq_true e⟩)⟩
    · left
      exact List.mem_singleton.mp h
theorem putM_nodup {M : List (Nat × α)} (nd : (M.map (·.1)).Nodup) {k : Nat} {a : α} : ((putM M k a).map (·.1)).Nodup := by
  rw [putM_keys]
  split
  · exact nd
  · rename_i c
    exact List.nodup_append.mpr ⟨nd, (by simp : [k].Nodup), fun x hx y hy => by
      rw [List.mem_singleton] at hy
      rw [hy]
      intro e
      rw [e] at hx
      exact c hx⟩
end
end K3
end

section
set_option autoImplicit true
set_option Elab.async false
set_option linter.all false
set_option maxRecDepth 100000
set_option maxHeartbeats 1000000
/-! k in d as a test; shapes of data. -/
namespace K3
open PySem PySem.Spec PyProof.Rows L2
section
variable {X : Cx} {S : Sto X.K} {e b o : Expr} {es : List Expr} {pos epos : Pos} {x : Str} {px apos cpos : Pos} {Q : Bool → Prop}
theorem wt_inD (hu : X.A.units + 1 < cLine) (h : W X e S fun y => ∃ n : Int, y = .int n ∧ W X o S fun d => ∃ ks, d = dicD ks ∧ Q (lookD ks n).isSome) (hm : behindInMarks .In o = false := by rfl) : WT X (.Compare e [.In] [o] pos) S Q := fun ow H σ Q' st k => by
  refine PT.we (pt_cmp (pc_din hu pe_W pe_W) hm) ?_
  refine h ow H σ _ st fun y v ow1 H1 q st1 e1 i1 => ?_
  obtain ⟨n, rfl, q⟩ := q
  cases i1
  refine q ow1 H1 σ _ st1 fun d w ow2 H2 q2 st2 e2 i2 => ?_
  obtain ⟨ks, rfl, q2⟩ := q2
  obtain ⟨a, kvs, ob, rfl, rd', ik⟩ := i2.dicI
  have rd : Rd _ a (.dK kvs) := .inr ⟨ob, rd'⟩
  refine ⟨a, valV kvs (Sum.inl n), rfl, .inl ⟨kvs, Sum.inl n, rd_le pt_le rd, rfl, rfl⟩, ?_⟩
  rcases ik.look n with ⟨v, d, z1, z2, _⟩ | ⟨z1, z2⟩
  · rw [z1]
    rw [z2] at q2
    exact ⟨_, rfl, k _ ow2 H2 q2 st2 (e1.trans e2)⟩
  · rw [z1]
    rw [z2] at q2
    exact ⟨_, rfl, k _ ow2 H2 q2 st2 (e1.trans e2)⟩
theorem wt_notinD (hu : X.A.units + 1 < cLine) (h : W X e S fun y => ∃ n : Int, y = .int n ∧ W X o S fun d => ∃ ks, d = dicD ks ∧ Q (!(lookD ks n).isSome)) (hm : behindInMarks .NotIn o = false := by rfl) : WT X (.Compare e [.NotIn] [o] pos) S Q := fun ow H σ Q' st k => by
  refine PT.we (pt_cmp (pc_dnotin hu pe_W pe_W) hm) ?_
  refine h ow H σ _ st fun y v ow1 H1 q st1 e1 i1 => ?_
  obtain ⟨n, rfl, q⟩ := q
  cases i1
  refine q ow1 H1 σ _ st1 fun d w ow2 H2 q2 st2 e2 i2 => ?_
  obtain ⟨ks, rfl, q2⟩ := q2
  obtain ⟨a, kvs, ob, rfl, rd', ik⟩ := i2.dicI
  have rd : Rd _ a (.dK kvs) := .inr ⟨ob, rd'⟩
  refine ⟨a, valV kvs (Sum.inl n), rfl, .inl ⟨kvs, Sum.inl n, rd_le pt_le rd, rfl, rfl⟩, ?_⟩
  rcases ik.look n with ⟨v, d, z1, z2, _⟩ | ⟨z1, z2⟩
  · rw [z1]
    rw [z2] at q2
    exact ⟨_, rfl, k _ ow2 H2 q2 st2 (e1.trans e2)⟩
  · rw [z1]
    rw [z2] at q2
    exact ⟨_, rfl, k _ ow2 H2 q2 st2 (e1.trans e2)⟩
theorem wt_inO (i : Nat) {ks : List (Int × D)} (hu : X.A.units + 1 < cLine) (hS : S[i]? = some (.odic ks)) (h : W X e S fun y => ∃ n : Int, y = .int n ∧ Q (lookD ks n).isSome) (hN : X.N[i]? = some x := by rfl) (hv : Vis X.env.scope x := by first | exact Or.inl rfl | exact Or.inr (Or.inl rfl) | exact Or.inr (Or.inr rfl))
    (hd : (x == ("__debug__" : Str)) = false := by decide) (hcd : (x == ("__classdict__" : Str)) = false := by decide) (hm : behindInMarks .In (.Name x px) = false := by rfl) : WT X (.Compare e [.In] [.Name x px] pos) S Q := fun ow H σ Q' st k => by
  refine PT.we (pt_cmp (pc_din hu pe_W (pe_var hN hv hd hcd)) hm) ?_
  refine h ow H σ _ st fun y v ow1 H1 q st1 e1 i1 => ?_
  obtain ⟨n, rfl, q⟩ := q
  cases i1
  obtain ⟨l, kvs, ev, g, o, ik⟩ := st1.odic hS
  refine ⟨_, ev, l, valV kvs (Sum.inl n), rfl, DGet.k (k := Sum.inl n) g, ?_⟩
  rcases ik.look n with ⟨v, d, z1, z2, _⟩ | ⟨z1, z2⟩
  · rw [z1]
    rw [z2] at q
    exact ⟨_, rfl, k _ ow1 H1 q st1 e1⟩
  · rw [z1]
    rw [z2] at q
    exact ⟨_, rfl, k _ ow1 H1 q st1 e1⟩
theorem wt_notinO (i : Nat) {ks : List (Int × D)} (hu : X.A.units + 1 < cLine) (hS : S[i]? = some (.odic ks)) (h : W X e S fun y => ∃ n : Int, y = .int n ∧ Q (!(lookD ks n).isSome)) (hN : X.N[i]? = some x := by rfl) (hv : Vis X.env.scope x := by first | exact Or.inl rfl | exact Or.inr (Or.inl rfl) | exact Or.inr (Or.inr rfl))
    (hd : (x == ("__debug__" : Str)) = false := by decide) (hcd : (x == ("__classdict__" : Str)) = false := by decide) (hm : behindInMarks .NotIn (.Name x px) = false := by rfl) : WT X (.Compare e [.NotIn] [.Name x px] pos) S Q := fun ow H σ Q' st k => by
  refine PT.we (pt_cmp (pc_dnotin hu pe_W (pe_var hN hv hd hcd)) hm) ?_
  refine h ow H σ _ st fun y v ow1 H1 q st1 e1 i1 => ?_
  obtain ⟨n, rfl, q⟩ := q
  cases i1
  obtain ⟨l, kvs, ev, g, o, ik⟩ := st1.odic hS
  refine ⟨_, ev, l, valV kvs (Sum.inl n), rfl, DGet.k (k := Sum.inl n) g, ?_⟩
  rcases ik.look n with ⟨v, d, z1, z2, _⟩ | ⟨z1, z2⟩
  · rw [z1]
    rw [z2] at q
    exact ⟨_, rfl, k _ ow1 H1 q st1 e1⟩
  · rw [z1]
    rw [z2] at q
    exact ⟨_, rfl, k _ ow1 H1 q st1 e1⟩
end
theorem shaped_of {d : D} (h1 : d.canLay0 = true) (h2 : d.depth ≤ 64) : SeqAt.shaped d = true := by
  unfold SeqAt.shaped
  rw [h1, decide_eq_true h2]
  rfl
end K3
end

section
set_option autoImplicit true
set_option Elab.async false
set_option linter.all false
set_option maxRecDepth 100000
set_option maxHeartbeats 1000000
/-! A comprehension within another. -/
namespace K3
open PySem PySem.Spec PyProof.Rows L2
theorem lookup_relabel_free {env : Env} : ∀ {names : List (Str × NameKind)} {x : Str}, names.lookup x = some .cell ∨ names.lookup x = some .free →
    (names.map fun (n, k) => if (k == NameKind.free && env.scope.kind == .function && env.kindOf n == some .cell) then (n, NameKind.cell) else (n, k)).lookup x = some .cell ∨
    (names.map fun (n, k) => if (k == NameKind.free && env.scope.kind == .function && env.kindOf n == some .cell) then (n, NameKind.cell) else (n, k)).lookup x = some .free
  | [], _, h => by simp at h
  | (n, k) :: r, x, h => by
    have ih := @lookup_relabel_free env r x
    rw [List.map_cons]
    show List.lookup x ((if (k == NameKind.free && env.scope.kind == .function && env.kindOf n == some .cell) = true then (n, NameKind.cell) else (n, k)) :: _) = _ ∨ List.lookup x ((if (k == NameKind.free && env.scope.kind == .function && env.kindOf n == some .cell) = true then (n, NameKind.cell) else (n, k)) :: _) = _
    cases hx : x == n with
    | true =>
      simp only [List.lookup_cons, hx] at h
      split
      · left
        simp only [List.lookup_cons, hx]
      · simp only [List.lookup_cons, hx]
        exact h
    | false =>
      simp only [List.lookup_cons, hx] at h
      have := ih h
      split
      · simp only [List.lookup_cons, hx]
        exact this
      · simp only [List.lookup_cons, hx]
        exact this
theorem BlkOk.re {N : List Str} {sc scope : Scope} {own : List (Str × Nat)} {env : Env} (h : BlkOk N sc scope own) : BlkOk N (relabel sc env) scope own :=
  ⟨h.kind, h.uniq, h.ix, fun y hy e => lookup_relabel_free (h.free y hy e), h.own⟩
end K3
end

section
set_option autoImplicit true
set_option Elab.async false
set_option linter.all false
set_option maxRecDepth 100000
set_option maxHeartbeats 1000000
/-! [x] * n as a slot's own list. -/
namespace K3
open PySem PySem.Spec PyProof.Rows L2
section
variable {X : Cx} {S : Sto X.K} {e e2 : Expr} {pos : Pos}
theorem wv_rep {QS : Sv X.K → Prop} (h : W X e S fun d => ∃ x, d = .list [x] ∧ W X e2 S fun y => ∃ n : Nat, y = dN n ∧ n ≤ 1000 ∧ QS (.own (List.replicate n x))) : WV X (.BinOp e .Mult e2 pos) S QS := fun ow H σ Q' st k => by
  refine PE.we (pe_op op_rep pe_W pe_W) ?_
  refine h ow H σ _ st fun d v ow1 H1 q st1 e1 i1 => ?_
  obtain ⟨x, rfl, q⟩ := q
  refine q ow1 H1 σ _ st1 fun y w ow2 H2 q2 st2 e2' i2 => ?_
  obtain ⟨n, rfl, hn, q2⟩ := q2
  cases i2
  cases i1 with
  | @lst a vs _ p a1 =>
    cases a1 with
    | @cons v0 _ _ _ b1 b2 =>
      cases b2
      refine ⟨_, _, _, rfl, rfl, pt_le _ _ (e2'.fz _ _ p), by omega, by omega, ?_, fun l hl => ?_⟩
      · rw [List.length_singleton]
        exact szl (by omega)
      · have ex : Ex H2 (upd H2 l (.lst (List.replicate ((n : Int)).toNat [v0]).flatten)) := Evl.Ex.new hl
        refine k _ _ (zw S.length ow2 H2) _ q2 (st2.zone ex) (e1.trans (e2'.trans (.zone ex))) ⟨l, _, rfl, zn_of (e1.dm l (e2'.dm l hl)) (zw_new hl) upd_same, ?_⟩
        have e3 : ∀ {α : Type} (m : Nat) (z : α), (List.replicate m [z]).flatten = List.replicate m z := by
          intro α m z
          induction m with
          | zero => rfl
          | succ m ih => rw [List.replicate_succ, List.replicate_succ, List.flatten_cons, ih]; rfl
        have e4 : (List.replicate ((n : Int)).toNat [v0]).flatten = List.replicate n v0 := by rw [Int.toNat_natCast, e3]
        have i3 := IsA.replicate (b1.mono (e2'.fz.trans (Stp.zone (n := S.length) ex).fz)) n
        generalize (List.replicate ((n : Int)).toNat [v0]).flatten = L at *
        rw [e4]
        rw [e4] at i3
        exact i3
end
end K3
end

section
set_option autoImplicit true
set_option Elab.async false
set_option linter.all false
set_option maxRecDepth 100000
set_option maxHeartbeats 3200000
/-! set(list), over what is kept of the set while it takes one item after another. -/
namespace K3
open PySem PySem.Spec PyProof.Rows L2
/-- J i: the set at S has taken i items; h0: what stood before -/
structure Takes (P : Program) (w : World) (A : Around) (S : Addr) (items : Array Value) (h0 : Heap) (J : Nat → Heap → Prop) : Prop where
  keep : ∀ i h h', J i h → (∀ o, h.get? S = some o → h'.get? S = some o) → (∀ b o, h0.get? b = some o → h'.get? b = some o) → J i h'
  add : ∀ (i : Nat) (v : Value) (s : Shared) (Q : Bool → Shared → Prop) (E : Value → Shared → Prop), items[i]? = some v → J i s.heap → (∀ b o, h0.get? b = some o → s.heap.get? b = some o) →
    (∀ (b : Bool) (h' : Heap) (t' : Nat), Heap.SameBut S s.heap h' → s.toks ≤ t' → J (i + 1) h' → Q b { s with heap := h', toks := t' }) → wpAny (model P w) A (setAdd S v) Q E s
section
variable {P : Program} {w : World} {A : Around} {E : Value → Shared → Prop} {s : Shared}
theorem set_loop {I : Addr} {fp wr : List Addr} {G : Array GenState → Array GenState → Prop} {n : Nat} {Pv : Nat → Value → Prop} {St : Nat → Shared → Prop} {R : Result → Shared → Prop} {S : Addr} {items : Array Value} {h0 : Heap} {J : Nat → Heap → Prop}
    (W : WalksS P w A.in1 I fp wr G n Pv St) (T : Takes P w A.in1 S items h0 J) (hSf : S ∉ fp) (hval : ∀ i v, Pv i v → items[i]? = some v) (hS0 : h0.get? S = none) (hw0 : ∀ b ∈ wr, h0.get? b = none) :
    ∀ (k i : Nat) (s : Shared), n - i = k → i ≤ n → St i s → (∀ b o, h0.get? b = some o → s.heap.get? b = some o) → J i s.heap →
      (∀ s', Moved (S :: wr) G s s' → J n s'.heap → (∀ b o, h0.get? b = some o → s'.heap.get? b = some o) → R (.ok (.ret .none)) s') →
      codeAny (model P w) A (.builtin "set.update.loop" ⟨[.ref S, .ref I], []⟩) R s := by
  have hSw : S ∉ wr := fun h => hSf (W.sub _ h)
  have hsub : ∀ b ∈ wr, b ∈ S :: wr := fun b hb => List.mem_cons_of_mem _ hb
  have keepM : ∀ {s s' : Shared}, Moved wr G s s' → (∀ b o, h0.get? b = some o → s.heap.get? b = some o) → ∀ b o, h0.get? b = some o → s'.heap.get? b = some o := fun hm hkp b o e =>
    hm.heap b o (fun hb => by rw [hw0 b hb] at e; cases e) (hkp b o e)
  intro k
  induction k with
  | zero =>
    intro i s hk hi hst hkp hJ hR
    have hin : i = n := by omega
    subst hin
    refine codeAny_builtin F.entry_set_update_loop ?_
    rw [Around.under_plainId F.plain_set_update_loop _]
    show wpAny _ A.in1 (pyNext (.ref I) >>= _) _ _ s
    refine wpAny_bind (W.done s _ _ hst fun s' hm => ?_)
    show wpAny _ A.in1 (ret Value.none) _ _ s'
    have hkp' := keepM hm hkp
    exact wpAny_pure (hR s' (hm.mono hsub) (T.keep _ _ _ hJ (fun o e => hm.heap S o hSw e) hkp') hkp')
  | succ k ih =>
    intro i s hk hi hst hkp hJ hR
    have hlt : i < n := by omega
    refine codeAny_builtin F.entry_set_update_loop ?_
    rw [Around.under_plainId F.plain_set_update_loop _]
    show wpAny _ A.in1 (pyNext (.ref I) >>= _) _ _ s
    refine wpAny_bind (W.item i s _ _ hlt hst fun v s' hP hst' hm => ?_)
    have hkp' := keepM hm hkp
    show wpAny _ A.in1 (holding [v] (setAdd S v) >>= _) _ _ s'
    refine wpAny_bind (wpAny_holding (T.add i v s' _ _ (hval i v hP) (T.keep _ _ _ hJ (fun o e => hm.heap S o hSw e) hkp') hkp' fun b h' t' hsb ht hJ' => ?_))
    have hkp2 : ∀ b o, h0.get? b = some o → h'.get? b = some o := fun b o e => (hsb.2 b (fun z => by rw [z, hS0] at e; cases e)).trans (hkp' b o e)
    refine wpAny_pure ⟨plainId_quiet F.plain_set_update_loop _, ih (i + 1) _ (by omega) hlt (W.frame _ s' _ _ hst' ht fun b hb o e => ?_) hkp2 hJ' fun s'' hm'' hJ'' hkp'' => ?_⟩
    · rw [hsb.2 b (fun h : b = S => hSf (by rw [← h]; exact hb))]
      exact e
    · refine hR s'' (Moved.trans W.gtrans ((hm.mono hsub).then_heap ht fun b o hb e => ?_) hm'') hJ'' hkp''
      rw [hsb.2 b (fun h : b = S => hb (by rw [h]; exact List.mem_cons_self))]
      exact e
abbrev freshSet (w : World) : Obj := { cls := .type "set", dict := none, data := .set #[] 0 (.fresh 0 0 (!w.params.followText "set-order")) }
/-- set(xs), xs a list -/
theorem call_set_gen {l : Addr} {items : Array Value} {J : Nat → Heap → Prop} {Q : Value → Shared → Prop} (hh : A.handled = none) (hl : s.heap.IsList l items) (T : Takes P w A.in1.in1.in1 s.heap.objs.size items s.heap J)
    (hJ0 : ∀ h : Heap, h.get? s.heap.objs.size = some (freshSet w) → (∀ b o, s.heap.get? b = some o → h.get? b = some o) → J 0 h)
    (h : ∀ (h' : Heap) (tk : Nat), J items.size h' → (∀ b o, s.heap.get? b = some o → h'.get? b = some o) → Q (.ref s.heap.objs.size) { s with heap := h', toks := tk }) :
    wpAny (model P w) A (call (.type "set") [.ref l]) Q E s := by
  obtain ⟨c, tl, hmro⟩ := F.called_set.mro
  have hmade := F.called_set.made
  have hsub := F.called_set.sub
  refine wpAny_call (codeAny_of_tree ?_)
  show wpAny _ _ (callAny (.type "set") _) _ _ _
  refine wpAny_pure ⟨Code.quiet_builtin _ (by decide +kernel), codeAny_builtin F.entry_type_call ?_⟩
  rw [Around.under_plain (weight_type_call_type "set" [.ref l] []) rfl]
  have h1 := F.called_set.notType
  have h2 := F.called_set.canCreate
  have hct := F.typeCall_set_1 (.ref l)
  repeat (any_goals (first | assumption | wp_step))
  refine codeAny_mono (code_set_led1 (.ref l) (E := E) (Q₁ := fun obj s₁ => obj = .ref s.heap.objs.size ∧ s₁ = { s with heap := s.heap.push (freshSet w) }) ⟨rfl, rfl⟩) fun r s₁ hr => ?_
  cases r with
  | error e => exact hr
  | ok fl =>
    cases fl with
    | ret obj =>
      obtain ⟨rfl, rfl⟩ := hr
      have hS : (s.heap.push (freshSet w)).get? s.heap.objs.size = some (freshSet w) := Heap.get?_push_size _ rfl
      have hT : Shared.TypeIs { s with heap := s.heap.push (freshSet w) } (.ref s.heap.objs.size) "set" := ⟨_, hS, rfl⟩
      have hli := F.called_set.init.lookup
      have hbi := F.called_set.init.bind (.ref s.heap.objs.size)
      repeat (any_goals (first | assumption | wp_step))
      refine codeAny_mono (codeAny_call_builtin (R := wants (fun r s₂ => r = .none ∧ ∃ h' tk, s₂ = { s with heap := h', toks := tk } ∧ J items.size h' ∧ (∀ b o, s.heap.get? b = some o → h'.get? b = some o)) E) F.called_set.init.plain F.entry_set_init (check_set_init_1 hT ?_)) fun r₂ s₂ hr₂ => ?_
      · obtain ⟨ol, hol, hcl, nl, hdl⟩ := hl
        obtain ⟨ocls, odict, odata, oslots⟩ := ol
        simp only at hcl hdl
        subst hcl; subst hdl
        have hol' : (s.heap.push (freshSet w)).get? l = some { cls := .type "list", dict := odict, data := .seq items nl, slots := oslots } := Heap.get?_push_of_some _ hol
        have hsls := F.sub_list_set
        have hslf := F.sub_list_frozenset
        have hne : (Value.type "list" == Value.type "dict") = false := by decide
        have hl1 : (s.heap.push (freshSet w)).IsList l items := ⟨_, hol', rfl, nl, rfl⟩
        unfold Builtin.«set.__init__» noKeywords Builtin.Frozenset.updateFrom
        generalize hPI : pyIter = PI
        wp_walk
        subst hPI
        refine wpAny_pyIter_list hl1 ?_
        refine wpAny_bind (wpAny_runValue ?_)
        have hlS : l < s.heap.objs.size := Heap.lt_size hol
        have hh3 : A.in1.in1.in1.handled = none := by simp [hh]
        have hneI : l ≠ (s.heap.push (freshSet w)).objs.size := by
          rw [Heap.size_push]
          exact Nat.ne_of_lt (Nat.lt_succ_of_lt hlS)
        have hSf : s.heap.objs.size ∉ [(s.heap.push (freshSet w)).objs.size, l] := by
          rw [Heap.size_push]
          simp only [List.mem_cons, List.mem_singleton, List.not_mem_nil, or_false, not_or]
          exact ⟨Nat.ne_of_lt (Nat.lt_succ_self _), Nat.ne_of_gt hlS⟩
        have none_of : ∀ b, s.heap.objs.size ≤ b → s.heap.get? b = none := fun b hb => by
          cases q : s.heap.get? b with
          | none => rfl
          | some o => exact absurd (Nat.lt_of_lt_of_le (Heap.lt_size q) hb) (Nat.lt_irrefl _)
        have kp2 : ∀ b o, s.heap.get? b = some o → ((s.heap.push (freshSet w)).push { cls := .type "list_iterator", data := .fields #[.ref l, .int 0 0] }).get? b = some o := fun b o e => Heap.get?_push_of_some _ (Heap.get?_push_of_some _ e)
        refine set_loop ((Walks.list hh3 _ l hneI items).toS) T hSf (fun i v hv => hv) (none_of _ (Nat.le_refl _)) (fun b hb => none_of b (by
            rw [List.mem_singleton.mp hb, Heap.size_push]
            exact Nat.le_succ _)) (items.size - 0) 0 _ (by omega) (Nat.zero_le _)
          ⟨⟨_, Heap.get?_push_size _ rfl, rfl, rfl⟩, (hl1.push _)⟩ kp2 (hJ0 _ (Heap.get?_push_of_some _ hS) kp2) ?hR
        case hR =>
          intro s' hm hJ' hkp
          obtain ⟨h', g2, d', tk', os'⟩ := s'
          have eg : g2 = s.gens := hm.gens
          have ed : d' = s.drawn := hm.drawn
          have eo : os' = s.os := hm.os
          subst eg; subst ed; subst eo
          show wpAny _ _ _ _ _ _
          refine wpAny_pure ?_
          show wpAny _ _ (ret Value.none) _ _ _
          exact wpAny_pure ⟨rfl, h', tk', rfl, hJ', hkp⟩
      · cases r₂ with
        | error e => exact hr₂
        | ok fl₂ =>
          cases fl₂ with
          | ret r =>
            obtain ⟨rfl, h', tk, rfl, hJ', hk'⟩ := hr₂
            repeat (any_goals (first | assumption | wp_step))
            exact h _ _ hJ' hk'
          | _ => exact hr₂.elim
    | _ => exact hr.elim
end
end K3
end

section
set_option Elab.async false
set_option linter.all false
set_option autoImplicit false
set_option maxRecDepth 100000
set_option maxHeartbeats 3200000
/-! Sets of tuples known by any kind of key: one more is put in. -/
namespace K3
open PySem PySem.Spec PyProof.Rows L2
/-- tuples that are known by a key -/
structure TupKd (P : Program) (w : World) (κ : Type) [DecidableEq κ] where
  is : Heap → κ → Addr → Prop
  hs : κ → Int
  room : Around → Prop
  mono : ∀ {h h' : Heap} {k : κ} {b : Addr}, is h k b → (∀ c o, h.get? c = some o → h'.get? c = some o) → is h' k b
  hash : ∀ {A : Around} {E : Value → Shared → Prop} {s : Shared} {k : κ} {b : Addr} {Q : Int → Shared → Prop}, room A → is s.heap k b → (∀ t', s.toks ≤ t' → Q (hs k) { s with toks := t' }) → wpAny (model P w) A (pyHash (.ref b)) Q E s
  same : ∀ {A : Around} {E : Value → Shared → Prop} {s : Shared} {k k' : κ} {b b' : Addr} {Q : Bool → Shared → Prop}, room A → is s.heap k b → is s.heap k' b' → Q (decide (k = k')) s → wpAny (model P w) A (eqBool (.ref b) (.ref b')) Q E s
  byv : ∀ {A : Around} {E : Value → Shared → Prop} {s : Shared} {k : κ} {b : Addr} {Q : Bool → Shared → Prop}, is s.heap k b → Q true s → wpAny (model P w) A (hashByValue 8 (.ref b)) Q E s
  mute : ∀ {A : Around} {E : Value → Shared → Prop} {s : Shared} {k : κ} {b : Addr} {Q : Bool → Shared → Prop}, is s.heap k b → Q true s → wpAny (model P w) A (eqIsQuiet 8 (.ref b)) Q E s
  nocls : ∀ {A : Around} {E : Value → Shared → Prop} {s : Shared} {k : κ} {b : Addr} {Q : Bool → Shared → Prop}, is s.heap k b → Q false s → wpAny (model P w) A (ofAClassStatement 8 (.ref b)) Q E s
section
variable {P : Program} {w : World} {κ : Type} [DecidableEq κ] (k0 : TupKd P w κ)
def entK (L : List (Addr × κ)) : List (Int × Value) := L.map fun q => (k0.hs q.2, Value.ref q.1)
def hsK (L : List (Addr × κ)) : List Int := L.map fun q => k0.hs q.2
/-- the set's own state: which keys stand in it, in which order -/
structure Tbl (h : Heap) (a : Addr) (L : List (Addr × κ)) (es : Array (Int × Value)) (ep : Nat) (t : SetTable) : Prop where
  obj : ∃ o, h.get? a = some o ∧ o.ExactSet ∧ o.data = .set es ep t
  ent : es.toList = entK k0 L
  ok : TabOk t (hsK k0 L)
  once : (L.map (·.2)).Nodup
  pl : t.plain = true
  ld : w.params.followText "set-order" = true ∨ t.led = true
  air : L.length * 5 < t.mask * 3
  few : L.length < 64
variable {k0}
theorem entK_len {L : List (Addr × κ)} {es : Array (Int × Value)} (h : es.toList = entK k0 L) : es.size = L.length := by
  rw [← Array.length_toList, h, entK, List.length_map]
theorem entK_get {L : List (Addr × κ)} {es : Array (Int × Value)} (h : es.toList = entK k0 L) {i : Nat} {q : Addr × κ} (e : L[i]? = some q) : es[i]? = some (k0.hs q.2, Value.ref q.1) := by
  have : es.toList[i]? = some (k0.hs q.2, Value.ref q.1) := by rw [h, entK, List.getElem?_map, e, Option.map_some]
  rwa [Array.getElem?_toList] at this
theorem fits_of {t : SetTable} {n : Nat} (h1 : t.place.size = n) (h2 : t.dummies = #[]) (h3 : n ≤ t.mask) : t.fits n = true := by
  have e : t.fill = n := by
    unfold SetTable.fill
    rw [h2, h1]
    rfl
  unfold SetTable.fits
  simp [e, h1, h3]
section
variable {h : Heap} {a : Addr} {L : List (Addr × κ)} {es : Array (Int × Value)} {ep : Nat} {t : SetTable}
theorem Tbl.psz (R : Tbl k0 h a L es ep t) : t.place.size = L.length := by
  have := R.ok.sz
  rwa [hsK, List.length_map] at this
theorem Tbl.fit (R : Tbl k0 h a L es ep t) : t.fits es.size = true := by
  have h1 := R.air
  exact fits_of (by rw [R.psz, entK_len R.ent]) R.ok.dm (by rw [entK_len R.ent]; omega)
theorem Tbl.gave (R : Tbl k0 h a L es ep t) : t.gaveWay = false := by
  have e := mask_odd R.ok.mok
  unfold SetTable.gaveWay
  rw [e]
  rfl
theorem Tbl.same {h' : Heap} (R : Tbl k0 h a L es ep t) (k : ∀ o, h.get? a = some o → h'.get? a = some o) : Tbl k0 h' a L es ep t :=
  { R with obj := by obtain ⟨o, z, r⟩ := R.obj; exact ⟨o, k o z, r⟩ }
end
theorem nth_dm (m : Nat) : ∀ (n : Nat) (p : SetTable.Probe), p.dummy = none → (nth m p n).dummy = none
  | 0, _, h => h
  | n + 1, p, h => nth_dm m n _ (by unfold adv; split <;> exact h)
variable {A : Around} {E : Value → Shared → Prop} {s : Shared}
/-- a search among such tuples shows nothing -/
theorem seenK {k : κ} {b : Addr} {Q : Bool → Shared → Prop} (hk : k0.is s.heap k b) (h : Q false s) : ∀ ys : List Value, (∀ y, y ∈ ys → ∃ k' c, y = Value.ref c ∧ k0.is s.heap k' c) → wpAny (model P w) A (searchCouldBeSeen (.ref b) ys) Q E s := fun ys hy => by
  unfold searchCouldBeSeen
  refine wpAny_bind (wpAny_forIn_list _ (fun left r z => r.1 = none ∧ z = s ∧ ∀ y, y ∈ left → ∃ k' c, y = Value.ref c ∧ k0.is s.heap k' c) _ ?turn ?stop _ _ ⟨rfl, rfl, hy⟩)
  case stop =>
    rintro ⟨r1, r2⟩ z ⟨e1, e2, _⟩
    cases e1
    cases e2
    exact wpAny_pure h
  case turn =>
    rintro v left r z ⟨e1, e2, al⟩
    cases e2
    obtain ⟨k', c, ev, hc⟩ := al v (List.mem_cons_self ..)
    cases ev
    have al' := fun y hy => al y (List.mem_cons_of_mem _ hy)
    dsimp only
    by_cases hv : (b == c || (carriedByValue (.ref b) && carriedByValue (.ref c))) = true
    · exact wp_if_pos hv (wpAny_pure ⟨rfl, rfl, al'⟩)
    · refine wp_if_neg hv (wpAny_bind (k0.mute hk (wp_if_neg (by decide) (wpAny_bind (k0.mute hc (wp_if_neg (by decide) (wpAny_bind (k0.nocls hk (wp_if_neg (by decide) (wpAny_bind (k0.nocls hc (wp_if_neg (by decide) ?_))))))))))))
      exact wpAny_pure ⟨rfl, rfl, al'⟩
variable {a : Addr} {L : List (Addr × κ)} {es : Array (Int × Value)} {ep : Nat} {t : SetTable}
/-- the place where the way of a hash begins -/
abbrev beg (t : SetTable) (h : Int) : SetTable.Probe := runAt t.mask (SetTable.bits h % (t.mask + 1)) (SetTable.bits h)
theorem seekK (R : Tbl k0 s.heap a L es ep t) (al : ∀ q : Addr × κ, q ∈ L → k0.is s.heap q.2 q.1) {x : Addr} {k : κ} (hx : k0.is s.heap k x) (hr : k0.room A) {N : Nat}
    (out : way t.mask (k0.hs k) N ∉ t.place.toList) (ins : ∀ c, c < N → way t.mask (k0.hs k) c ∈ t.place.toList) (hN : N < 10 * SetTable.turns t.mask) {Q : SetFound → Shared → Prop}
    (yes : k ∈ L.map (·.2) → Q (.there none) s) (no : k ∉ L.map (·.2) → Q (.free (way t.mask (k0.hs k) N) false) s) :
    ∀ (f c : Nat) (st : Option SetTable.Probe), st.getD (t.probeStart (k0.hs k)) = nth t.mask (beg t (k0.hs k)) c → c ≤ N → N < f + c →
      (∀ (i : Nat) (q : Addr × κ), L[i]? = some q → q.2 = k → ∃ d, c ≤ d ∧ d < N ∧ t.place.toList[i]? = some (way t.mask (k0.hs k) d)) → wpAny (model P w) A (setSearchFrom a (.ref x) (k0.hs k) true f st) Q E s := by
  obtain ⟨o, go, hex, hd⟩ := R.obj
  have wj : ∀ c d, (nth t.mask (nth t.mask (beg t (k0.hs k)) c) d).j = way t.mask (k0.hs k) (c + d) := fun c d => by rw [← nth_add]
  have hA : ∀ (i : Nat) (q : Addr × κ), L[i]? = some q → (es[i]?.map (·.1)).getD 0 = k0.hs q.2 := fun i q e => by rw [entK_get R.ent e]; rfl
  intro f
  induction f with
  | zero => intro c st _ h1 h2 _; omega
  | succ f ih =>
    intro c st hst hc hf hb
    rw [setSearchFrom_succ]
    refine wpAny_bind (wpAny_setState_of go hd R.fit ?_)
    dsimp only
    refine wp_if_neg (by rw [R.gave]; decide) ?_
    try refine wpAny_bind (wpAny_pure ?_)
    have sp := go_spec t R.ok.ris R.ok.dm (fun i => (es[i]?.map (·.1)).getD 0) (k0.hs k) (10 * SetTable.turns t.mask) (N - c) (nth t.mask (beg t (k0.hs k)) c) (nth_dm _ c _ rfl) (by omega) (fun d hd => by rw [wj]; exact ins _ (by omega)) (by rw [wj, Nat.add_sub_cancel' hc]; exact out)
    rcases sp with ⟨d, i, h1, h2, h3, h4, h5⟩ | ⟨h4, h5⟩
    · have pr : t.probe (fun i => (es[i]?.map (·.1)).getD 0) (k0.hs k) (st.getD (t.probeStart (k0.hs k))) = some (.candidate (way t.mask (k0.hs k) (c + d)) i (nth t.mask (beg t (k0.hs k)) (c + (d + 1)))) := by
        rw [hst, ← wj c d, nth_add]
        exact h5
      rw [pr]
      dsimp only
      rw [wj] at h2
      have il : i < L.length := by
        have z := (List.getElem?_eq_some_iff.mp h2).1
        rw [Array.length_toList, R.psz] at z
        exact z
      obtain ⟨q, eq⟩ : ∃ q, L[i]? = some q := ⟨_, List.getElem?_eq_getElem il⟩
      have qm := List.mem_of_getElem? eq
      have sl : t.slot (way t.mask (k0.hs k) (c + d)) = .live i := slot_live R.ok.ris h2
      have onw : wpAny (model P w) A (searchRest a (.ref x) (k0.hs k) true f es t (way t.mask (k0.hs k) (c + d)) i (nth t.mask (beg t (k0.hs k)) (c + (d + 1)))) Q E s := by
        unfold searchRest
        rw [entK_get R.ent eq]
        dsimp only
        refine wpAny_bind (wpAny_holding (k0.same hr (al q qm) hx (wpAny_bind (wpAny_setState_of go hd R.fit ?_))))
        dsimp only
        by_cases qk : q.2 = k
        · exact wp_if_pos (by simp [qk]) (wpAny_pure (yes (List.mem_map.mpr ⟨q, qm, qk⟩)))
        · refine wp_if_neg (by simp [qk]) ?_
          try refine wpAny_bind (wpAny_pure ?_)
          rw [sameMem]
          dsimp only
          simp only [if_true, sl, entK_get R.ent eq]
          refine wpAny_bind (wpAny_isSame_ref_self (wpAny_bind (wpAny_pure ?_)))
          simp only [if_true]
          refine wp_if_neg (by simp [qk]) (ih (c + (d + 1)) (some _) rfl (by omega) (by omega) fun i' q' e' k' => ?_)
          obtain ⟨d', b1, b2, b3⟩ := hb i' q' e' k'
          refine ⟨d', ?_, b2, b3⟩
          apply Classical.byContradiction
          intro hlt
          by_cases z : d' = c + d
          · rw [z] at b3
            have s0 := slot_live R.ok.ris b3
            rw [sl] at s0
            injection s0 with s0
            rw [← s0, eq] at e'
            cases e'
            exact qk k'
          · refine h4 (d' - c) i' (by omega) (by rw [wj, Nat.add_sub_cancel' b1]; exact b3) ?_
            rw [← k']
            exact hA i' q' e'
      by_cases hl : t.led = true
      · refine wp_if_neg (by simp [hl]) ?_
        try refine wpAny_bind (wpAny_pure ?_)
        exact onw
      · refine wp_if_pos (by simp [hl]) (wpAny_bind (seenK hx (wp_if_neg (by decide) ?_) _ fun y hy => ?_))
        · try refine wpAny_bind (wpAny_pure ?_)
          exact onw
        · obtain ⟨e, he, rfl⟩ := List.mem_map.mp hy
          have he2 : e ∈ es := by
            have := Array.mem_toList_iff.mp he
            exact (Array.mem_filter.mp this).1
          rw [← Array.mem_toList_iff, R.ent, entK] at he2
          obtain ⟨q', m', rfl⟩ := List.mem_map.mp he2
          exact ⟨q'.2, q'.1, rfl, al q' m'⟩
    · have pr : t.probe (fun i => (es[i]?.map (·.1)).getD 0) (k0.hs k) (st.getD (t.probeStart (k0.hs k))) = some (.empty (way t.mask (k0.hs k) N) none) := by
        have z := wj c (N - c)
        rw [Nat.add_sub_cancel' hc] at z
        rw [hst, ← z]
        exact h5
      rw [pr]
      dsimp only
      refine wpAny_pure (no fun hm => ?_)
      obtain ⟨q', m', e'⟩ := List.mem_map.mp hm
      obtain ⟨i', hi'⟩ := List.getElem?_of_mem m'
      obtain ⟨d', b1, b2, b3⟩ := hb i' q' hi' e'
      refine h4 (d' - c) i' (by omega) (by rw [wj, Nat.add_sub_cancel' b1]; exact b3) ?_
      rw [← e']
      exact hA i' q' hi'
/-- the search as adding asks for it -/
theorem findK (R : Tbl k0 s.heap a L es ep t) (al : ∀ q : Addr × κ, q ∈ L → k0.is s.heap q.2 q.1) {x : Addr} {k : κ} (hx : k0.is s.heap k x) (hr : k0.room A) {Q : SetFound → Shared → Prop} (yes : k ∈ L.map (·.2) → Q (.there none) s)
    (no : ∀ N, k ∉ L.map (·.2) → way t.mask (k0.hs k) N ∉ t.place.toList → (∀ c, c < N → way t.mask (k0.hs k) c ∈ t.place.toList) → Q (.free (way t.mask (k0.hs k) N) false) s) :
    wpAny (model P w) A (setSearch a (.ref x) (k0.hs k) true) Q E s := by
  have z := R.air
  obtain ⟨N, h1, h2, h3⟩ := R.ok.first (by rw [hsK, List.length_map]; omega) (k0.hs k)
  have hs : N < 100000 := by
    have : SetTable.turns t.mask ≤ 142 := by
      unfold SetTable.turns
      rcases R.ok.mok with e | e | e <;> omega
    omega
  unfold setSearch
  refine seekK R al hx hr h2 h3 h1 yes (fun q => no N q h2 h3) 100000 0 none rfl (Nat.zero_le _) (by omega) fun i q e1 e2 => ?_
  have il : i < t.place.toList.length := by
    have y := (List.getElem?_eq_some_iff.mp e1).1
    rw [Array.length_toList, R.psz]
    exact y
  obtain ⟨j, ej⟩ : ∃ j, t.place.toList[i]? = some j := ⟨_, List.getElem?_eq_getElem il⟩
  obtain ⟨d, d1, d2⟩ := R.ok.before h2 (i := i) (h := k0.hs k) (by rw [hsK, List.getElem?_map, e1, ← e2]; rfl) ej
  exact ⟨d, Nat.zero_le _, d1, by rw [ej, d2]⟩
end
end K3
end

section
set_option Elab.async false
set_option linter.all false
set_option autoImplicit false
set_option maxRecDepth 100000
set_option maxHeartbeats 3200000
/-! Sets of keyed tuples: the table laid anew, one more put in. -/
namespace K3
open PySem PySem.Spec PyProof.Rows L2
section
variable {P : Program} {w : World} {κ : Type} [DecidableEq κ] {k0 : TupKd P w κ}
theorem pick_ent {L : List (Addr × κ)} {es : Array (Int × Value)} (h : es.toList = entK k0 L) : ∀ l : List Nat, (∀ i, i ∈ l → i < L.length) →
    l.filterMap (fun i => es[i]?) = entK k0 (l.filterMap fun i => L[i]?) ∧ hsK k0 (l.filterMap fun i => L[i]?) = l.map fun i => (es.map (·.1)).getD i 0
  | [], _ => ⟨rfl, rfl⟩
  | i :: l, hl => by
    obtain ⟨h1, h2⟩ := pick_ent h l fun j hj => hl j (List.mem_cons_of_mem _ hj)
    obtain ⟨q, eq⟩ : ∃ q, L[i]? = some q := ⟨_, List.getElem?_eq_getElem (hl i (List.mem_cons_self ..))⟩
    have e1 := entK_get h eq
    have e2 : (es.map (·.1)).getD i 0 = k0.hs q.2 := by
      rw [Array.getD_eq_getD_getElem?, Array.getElem?_map, e1]
      rfl
    constructor
    · simp only [List.filterMap_cons, e1, eq, h1]
      rfl
    · simp only [List.filterMap_cons, eq, List.map_cons, e2, ← h2]
      rfl
theorem pick_all {α : Type} (L : List α) : (List.range L.length).filterMap (fun i => L[i]?) = L := by
  have key : ∀ L : List α, ∀ P : List α, (List.range' P.length L.length).filterMap (fun i => (P ++ L)[i]?) = L := by
    intro L
    induction L with
    | nil => intro P; rfl
    | cons x L ih =>
      intro P
      have z := ih (P ++ [x])
      rw [List.append_assoc, List.singleton_append, List.length_append, List.length_singleton] at z
      have e : (P ++ x :: L)[P.length]? = some x := by simp
      rw [List.length_cons, List.range'_succ, List.filterMap_cons, e]
      simp only [z]
  have := key L []
  simpa [List.range_eq_range'] using this
/-- some order of all places -/
theorem pick_perm {L : List (Addr × κ)} {l : List Nat} (h : l.Perm (List.range L.length)) : (l.filterMap fun i => L[i]?).Perm L := by
  have z := h.filterMap fun i => L[i]?
  rwa [pick_all] at z
variable {A : Around} {E : Value → Shared → Prop} {s : Shared} {a : Addr} {L : List (Addr × κ)} {es : Array (Int × Value)} {ep : Nat} {t : SetTable}
theorem relayK {o : Obj} (go : s.heap.get? a = some o) (hex : o.ExactSet) (hd : o.data = .set es ep t) (he : es.toList = entK k0 L) (hp : t.place.size = L.length) (hm : t.dummies = #[]) (hf : L.length ≤ t.mask) (once : (L.map (·.2)).Nodup)
    (pl : t.plain = true) (ld : w.params.followText "set-order" = true ∨ t.led = true) (few : L.length < 64) {n M : Nat} (hn : SetTable.sizeAbove n = M + 1) (hM : MaskOk M) (hr : L.length * 5 < M * 3) {Q : Unit → Shared → Prop}
    (q : ∀ h' L' es' t', Heap.SameBut a s.heap h' → Tbl k0 h' a L' es' (ep + 1) t' → L'.Perm L → Q () { s with heap := h' }) : wpAny (model P w) A (setRelay a n) Q E s := by
  have zl := entK_len he
  have hM2 : M ≤ 127 := by rcases hM with e | e | e <;> omega
  obtain ⟨t', ord, r1, r2, r3, r4, r5, r6, _⟩ := relaid_ok t (hs := es.map (·.1)) (wanted := n) (M := M) (by omega) hM (by rw [Array.size_map, zl]; omega)
  rw [Array.size_map, zl] at r2
  obtain ⟨p1, p2⟩ := pick_ent he ord.toList fun i hi => List.mem_range.mp (r2.mem_iff.mp hi)
  have pp := pick_perm r2
  rw [← p2] at r3
  have e1 : (ord.filterMap (es[·]?)).toList = entK k0 (ord.toList.filterMap fun i => L[i]?) := by
    rw [Array.toList_filterMap]
    exact p1
  generalize ord.toList.filterMap (fun i => L[i]?) = L' at r3 e1 pp
  have zs := entK_len e1
  rw [pp.length_eq] at zs
  rw [setRelay_eq]
  refine wpAny_bind (wpAny_setState_of go hd (fits_of (by rw [hp, zl]) hm (by omega)) ?_)
  dsimp only
  refine wp_if_neg (by rw [sizeLine_eq, hn]; omega) ?_
  try refine wpAny_bind (wpAny_pure ?_)
  rw [r1]
  dsimp only
  refine wpAny_bind (wp_if_neg (by simp [zs, zl]) ?_)
  try refine wpAny_bind (wpAny_pure ?_)
  refine wpAny_pure ?_
  dsimp only
  refine wpAny_storeSet_of go hd (q _ L' (ord.filterMap (es[·]?)) t' (Heap.SameBut.update ..) ?_ pp) (by rw [zs, sizeLine_eq]; omega)
  exact ⟨⟨_, store_at go hd, ⟨hex.1, hex.2.1, hex.2.2⟩, rfl⟩, e1, r3, (pp.map (·.2)).nodup_iff.mpr once, by rw [r6]; exact pl, by rw [r5]; exact ld, by rw [pp.length_eq, r4]; exact hr, by rw [pp.length_eq]; exact few⟩
theorem addK (R : Tbl k0 s.heap a L es ep t) (al : ∀ q : Addr × κ, q ∈ L → k0.is s.heap q.2 q.1) {x : Addr} {k : κ} (hx : k0.is s.heap k x) (hr : k0.room A) (few : L.length + 1 < 64) {Q : Bool → Shared → Prop}
    (q : ∀ b h' L' es' ep' t', Heap.SameBut a s.heap h' → Tbl k0 h' a L' es' ep' t' → (k ∈ L.map (·.2) → L' = L) → (k ∉ L.map (·.2) → L'.Perm ((x, k) :: L)) → Q b { s with heap := h' }) :
    wpAny (model P w) A (setAddHashed a (.ref x) (k0.hs k)) Q E s := by
  obtain ⟨o, go, hex, hd⟩ := R.obj
  have zl := entK_len R.ent
  have za := R.air
  unfold setAddHashed
  refine wpAny_holding ?_
  show wpAny _ _ (setAddHashedIn a (.ref x) (k0.hs k) (99999 + 1)) _ _ _
  rw [setAddHashedIn_succ]
  refine wpAny_bind (wpAny_setState_of go hd R.fit ?_)
  dsimp only
  refine wp_if_neg (by simp [byScan, Value.scannable]) ?_
  try refine wpAny_bind (wpAny_pure ?_)
  refine wpAny_bind (findK R al hx hr (fun hm => ?_) fun N hm out ins => ?_)
  · exact wpAny_pure (q false s.heap L es ep t (.refl a s.heap) R (fun _ => rfl) fun z => absurd hm z)
  · dsimp only
    refine wpAny_bind (wpAny_setState_of go hd R.fit ?_)
    dsimp only
    obtain ⟨c1, c2, c3, c4, c5, c6, _, _, c9⟩ := R.ok.put out ins
    have hins : (SetTable.insertAt es (SetTable.below t.place (way t.mask (k0.hs k) N)) (k0.hs k, Value.ref x)).toList = entK k0 (L.take (SetTable.below t.place (way t.mask (k0.hs k) N)) ++ (x, k) :: L.drop (SetTable.below t.place (way t.mask (k0.hs k) N))) := by
      rw [SetTable.toList_insertAt, R.ent]
      simp only [entK, List.map_append, List.map_cons, List.map_take, List.map_drop]
    have c3' : TabOk (t.put (way t.mask (k0.hs k) N)).1 (hsK k0 (L.take (SetTable.below t.place (way t.mask (k0.hs k) N)) ++ (x, k) :: L.drop (SetTable.below t.place (way t.mask (k0.hs k) N)))) := by
      have e : hsK k0 (L.take (SetTable.below t.place (way t.mask (k0.hs k) N)) ++ (x, k) :: L.drop (SetTable.below t.place (way t.mask (k0.hs k) N))) = (hsK k0 L).take (SetTable.below t.place (way t.mask (k0.hs k) N)) ++ k0.hs k :: (hsK k0 L).drop (SetTable.below t.place (way t.mask (k0.hs k) N)) := by
        simp only [hsK, List.map_append, List.map_cons, List.map_take, List.map_drop]
      rw [e]
      exact c3
    have pm := put_perm L (SetTable.below t.place (way t.mask (k0.hs k) N)) (x, k)
    have cp : (t.put (way t.mask (k0.hs k) N)).1.plain = true := by rw [c6]; exact R.pl
    have cl : w.params.followText "set-order" = true ∨ (t.put (way t.mask (k0.hs k) N)).1.led = true := by rw [c5]; exact R.ld
    rw [hsK, List.length_map] at c9
    clear c2 c3
    rw [← c1] at hins c3' pm
    clear c1
    generalize t.put (way t.mask (k0.hs k) N) = tp at *
    obtain ⟨t1, p⟩ := tp
    dsimp only at hins c3' pm cp cl c4 c9 ⊢
    generalize L.take p ++ (x, k) :: L.drop p = L1 at *
    generalize SetTable.insertAt es p (k0.hs k, Value.ref x) = es1 at *
    have z1 : L1.length = L.length + 1 := pm.length_eq
    have z2 := entK_len hins
    have on1 : (L1.map (·.2)).Nodup := (pm.map (·.2)).nodup_iff.mpr (List.nodup_cons.mpr ⟨hm, R.once⟩)
    have p1 : t1.place.size = L1.length := by
      have := c3'.sz
      rwa [hsK, List.length_map] at this
    first
      | (refine wpAny_bind (wp_if_pos cp (k0.byv hx ?_)))
      | (refine wp_if_pos cp (wpAny_bind (k0.byv hx ?_)))
    simp only [if_true]
    have sb : Heap.SameBut a s.heap (s.heap.update a (Obj.putSet es1 t1)) := .update ..
    have g1 := store_at (es' := es1) (t' := t1) go hd
    refine wpAny_bind (wpAny_storeSet_of go hd ?_ (by rw [z2, sizeLine_eq]; omega))
    generalize s.heap.update a (Obj.putSet es1 t1) = h1 at *
    have full : t1.tooFull = decide ((L.length + 1) * 5 ≥ t1.mask * 3) := by
      unfold SetTable.tooFull
      rw [c9]
    by_cases hf : (L.length + 1) * 5 ≥ t1.mask * 3
    · have hf' : t1.tooFull = true := by rw [full]; exact decide_eq_true hf
      have go2 : ∀ M, SetTable.sizeAbove (SetTable.grown (es.size + 1)) = M + 1 → MaskOk M → L1.length * 5 < M * 3 → L1.length ≤ t1.mask → wpAny (model P w) A (setRelay a (SetTable.grown (es.size + 1))) (fun _ s' => wpAny (model P w) A (pure true) Q E s') E { s with heap := h1 } := fun M m1 m2 m3 m4 =>
        relayK (s := { s with heap := h1 }) g1 ⟨hex.1, hex.2.1, hex.2.2⟩ rfl hins p1 c3'.dm m4 on1 cp cl (by omega) m1 m2 m3 fun h2 L2 es2 t2 sb2 R2 pm2 => wpAny_pure (q true h2 L2 es2 _ t2 (sb.trans sb2) R2 (fun z => absurd z hm) fun _ => pm2.trans pm)
      have fin : wpAny (model P w) A (setRelay a (SetTable.grown (es.size + 1))) (fun _ s' => wpAny (model P w) A (pure true) Q E s') E { s with heap := h1 } := by
        rcases R.ok.mok with e | e | e
        · have : L.length = 4 := by rw [c4, e] at hf; rw [e] at za; omega
          exact go2 31 (by rw [zl, this]; exact size_20) (.inr (.inl rfl)) (by omega) (by omega)
        · have : L.length = 18 := by rw [c4, e] at hf; rw [e] at za; omega
          exact go2 127 (by rw [zl, this]; exact size_76) (.inr (.inr rfl)) (by omega) (by omega)
        · rw [c4, e] at hf
          omega
      first
        | exact wpAny_bind (wp_if_pos (by simp [hf']) fin)
        | exact wp_if_pos (by simp [hf']) (wpAny_bind fin)
    · have hf' : t1.tooFull = false := by rw [full]; exact decide_eq_false hf
      have fin : Q true { s with heap := h1 } := q true h1 L1 es1 (ep + 1) t1 sb ⟨⟨_, g1, ⟨hex.1, hex.2.1, hex.2.2⟩, rfl⟩, hins, c3', on1, cp, cl, by rw [z1]; omega, by omega⟩ (fun z => absurd z hm) fun _ => pm
      first
        | exact wp_if_neg (by simp [hf']) (wpAny_pure fin)
        | exact wpAny_bind (wp_if_neg (by simp [hf']) (wpAny_pure (wpAny_pure fin)))
end
end K3
end

section
set_option Elab.async false
set_option linter.all false
set_option autoImplicit false
set_option maxRecDepth 100000
set_option maxHeartbeats 3200000
/-! Tuples of ints and of such tuples, as what a set holds. -/
namespace K3
open PySem PySem.Spec PyProof.Rows L2
mutual
def numK : NestedKey → Prop
  | .num _ => True
  | .tup ks => numKs ks
  | .none => False
  | .text _ => False
def numKs : List NestedKey → Prop
  | [] => True
  | k :: ks => numK k ∧ numKs ks
end
section
variable {P : Program} {w : World}
def Byv (P : Program) (w : World) (n : Nat) (s : Shared) (v : Value) : Prop := ∀ (A : Around) (E : Value → Shared → Prop) (Q : Bool → Shared → Prop), Q true s → wpAny (model P w) A (hashByValue n v) Q E s
def Ncl (P : Program) (w : World) (n : Nat) (s : Shared) (v : Value) : Prop := ∀ (A : Around) (E : Value → Shared → Prop) (Q : Bool → Shared → Prop), Q false s → wpAny (model P w) A (ofAClassStatement n v) Q E s
theorem byv_tup {n m : Nat} {s : Shared} {a : Addr} {o : Obj} {vs : Array Value} (ho : s.heap.get? a = some o) (hc : o.cls = .type "tuple") (hd : o.data = .seq vs m) (h : ∀ v, v ∈ vs.toList → Byv P w n s v) : Byv P w (n + 1) s (.ref a) := fun A E Q q => by
  have hT : s.TypeIs (.ref a) "tuple" := ⟨o, ho, hc⟩
  unfold hashByValue
  refine wpAny_bind (wpAny_specialOf hT F.slot_tuple_hash.lookup ?_)
  show wpAny _ _ (seqItems? (.ref a) >>= _) _ _ s
  refine wpAny_bind (wpAny_seqItems ho hd (wpAny_bind ?_))
  show wpAny _ _ (forIn vs _ _) _ _ s
  rw [← Array.forIn_toList]
  refine wpAny_forIn_list _ (fun left r z => r.1 = none ∧ z = s ∧ ∀ v, v ∈ left → Byv P w n s v) _ ?turn ?stop _ _ ⟨rfl, rfl, h⟩
  case stop =>
    rintro ⟨r1, r2⟩ z ⟨e1, e2, _⟩
    cases e1
    cases e2
    exact wpAny_pure q
  case turn =>
    rintro v left r z ⟨e1, e2, al⟩
    cases e2
    refine wpAny_bind (al v (List.mem_cons_self ..) _ _ _ ?_)
    exact wp_if_neg (by decide) (wpAny_pure ⟨rfl, rfl, fun u hu => al u (List.mem_cons_of_mem _ hu)⟩)
theorem ncl_tup {n m : Nat} {s : Shared} {a : Addr} {o : Obj} {vs : Array Value} (ho : s.heap.get? a = some o) (hc : o.cls = .type "tuple") (hd : o.data = .seq vs m) (h : ∀ v, v ∈ vs.toList → Ncl P w n s v) : Ncl P w (n + 1) s (.ref a) := fun A E Q q => by
  have hT : s.TypeIs (.ref a) "tuple" := ⟨o, ho, hc⟩
  unfold ofAClassStatement
  refine wpAny_bind (wpAny_typeOf hT ?_)
  dsimp only
  have e : (("tuple" : String) == "tuple") = true := by decide
  simp only [e, if_true, Bool.not_true, Bool.false_eq_true, if_false]
  try refine wpAny_bind (wpAny_pure ?_)
  try simp only [Bool.not_true, Bool.false_eq_true, if_false]
  show wpAny _ _ (seqItems? (.ref a) >>= _) _ _ s
  refine wpAny_bind (wpAny_seqItems ho hd ?_)
  dsimp only
  refine wpAny_bind ?_
  show wpAny _ _ (forIn vs _ _) _ _ s
  rw [← Array.forIn_toList]
  refine wpAny_forIn_list _ (fun left r z => r.1 = none ∧ z = s ∧ ∀ v, v ∈ left → Ncl P w n s v) _ ?turn ?stop _ _ ⟨rfl, rfl, h⟩
  case stop =>
    rintro ⟨r1, r2⟩ z ⟨e1, e2, _⟩
    cases e1
    cases e2
    exact wpAny_pure q
  case turn =>
    rintro v left r z ⟨e1, e2, al⟩
    cases e2
    refine wpAny_bind (al v (List.mem_cons_self ..) _ _ _ ?_)
    exact wp_if_neg (by decide) (wpAny_pure ⟨rfl, rfl, fun u hu => al u (List.mem_cons_of_mem _ hu)⟩)
theorem byv_num {h : Heap} {i : Int} {v : Value} (n : Nat) (x : NestedIs h (.num i) v) : hashByValue n v = pure true := by
  cases x <;> cases n <;> rfl
theorem ncl_num {h : Heap} {i : Int} {v : Value} (n : Nat) (x : NestedIs h (.num i) v) : ofAClassStatement n v = pure false := by
  cases x <;> cases n <;> rfl
mutual
theorem askK : ∀ (k : NestedKey) (v : Value) (n : Nat) (s : Shared), NestedIs s.heap k v → numK k → k.depth ≤ n → Byv P w n s v ∧ Ncl P w n s v
  | .num i, v, n, s, x, _, _ => ⟨fun A E Q q => by rw [byv_num n x]; exact wpAny_pure q, fun A E Q q => by rw [ncl_num n x]; exact wpAny_pure q⟩
  | .none, v, n, s, x, h, _ => h.elim
  | .text _, v, n, s, x, h, _ => h.elim
  | .tup ks, v, n, s, x, h, hn => by
    cases x with
    | tup h1 h2 h3 h4 =>
      rw [NestedKey.depth] at hn
      cases n with
      | zero => omega
      | succ n =>
        have al := askKs ks _ n s h4 h (by omega)
        exact ⟨byv_tup h1 h2 h3 fun v hv => (al v hv).1, ncl_tup h1 h2 h3 fun v hv => (al v hv).2⟩
theorem askKs : ∀ (ks : List NestedKey) (vs : List Value) (n : Nat) (s : Shared), NestedAll s.heap ks vs → numKs ks → NestedKey.depthAll ks ≤ n → ∀ v, v ∈ vs → Byv P w n s v ∧ Ncl P w n s v
  | [], vs, n, s, x, _, _, v, hv => by cases x; cases hv
  | k :: ks, vs, n, s, x, h, hn, v, hv => by
    cases x with
    | cons x1 x2 =>
      rw [NestedKey.depthAll] at hn
      rw [numKs] at h
      rcases List.mem_cons.mp hv with e | hv
      · rw [e]
        exact askK k _ n s x1 h.1 (by omega)
      · exact askKs ks _ n s x2 h.2 (by omega) v hv
end
/-- the kind -/
def kdN (P : Program) (w : World) : TupKd P w NestedKey where
  is := fun h k b => NestedIs h k (.ref b) ∧ k.depth ≤ 8 ∧ numK k
  hs := fun k => k.hash w
  room := fun A => A.units + 8 < cLine
  mono := fun x e => ⟨NestedIs.at (fun a o vs n h _ => e a o h) _ _ x.1, x.2⟩
  hash := fun {A E s k b Q} hr hk q => (nestedKind P w).pyHash (A := A) hr ⟨hk.1, hk.2.1⟩ (q _ (Nat.le_add_right _ _))
  same := fun {A E s k k' b b' Q} hr hx hy q => (nestedKind P w).eqBool (A := A) hr ⟨hx.1, hx.2.1⟩ ⟨hy.1, hy.2.1⟩ q
  byv := fun hk q => (askK _ _ 8 _ hk.1 hk.2.2 hk.2.1).1 _ _ _ q
  mute := fun hk q => (nestedKind P w).quiet ⟨hk.1, hk.2.1⟩ q
  nocls := fun hk q => (askK _ _ 8 _ hk.1 hk.2.2 hk.2.1).2 _ _ _ q
end
end K3
end

section
set_option Elab.async false
set_option linter.all false
set_option autoImplicit false
set_option maxRecDepth 100000
set_option maxHeartbeats 1600000
/-! sorted(set(xs)), xs a list of tuples of ints and of such tuples. -/
namespace K3
open PySem PySem.Spec PyProof.Rows L2
mutual
def keyD : D → NestedKey
  | .int i => .num i
  | .tuple ds => .tup (keyDs ds)
  | _ => .none
def keyDs : List D → List NestedKey
  | [] => []
  | d :: ds => keyD d :: keyDs ds
end
mutual
def numD : D → Prop
  | .int _ => True
  | .tuple ds => numDs ds
  | _ => False
def numDs : List D → Prop
  | [] => True
  | d :: ds => numD d ∧ numDs ds
end
mutual
theorem numK_of : ∀ d : D, numD d → numK (keyD d)
  | .int _, _ => by rw [keyD]; trivial
  | .tuple ds, h => by
    rw [keyD]
    rw [numD] at h
    exact numKs_of ds h
  | .none, h => by simp only [numD] at h
  | .bool _, h => by simp only [numD] at h
  | .str _, h => by simp only [numD] at h
  | .list _, h => by simp only [numD] at h
  | .dict _, h => by simp only [numD] at h
theorem numKs_of : ∀ ds : List D, numDs ds → numKs (keyDs ds)
  | [], _ => by rw [keyDs]; trivial
  | d :: ds, h => by
    rw [keyDs]
    rw [numDs] at h
    exact ⟨numK_of d h.1, numKs_of ds h.2⟩
end
mutual
theorem keyD_inj : ∀ d e : D, numD d → numD e → keyD d = keyD e → d = e
  | .int i, .int j, _, _, h => by
    rw [keyD, keyD] at h
    injection h with h
    rw [h]
  | .tuple ds, .tuple es, h1, h2, h => by
    rw [keyD, keyD] at h
    rw [numD] at h1 h2
    injection h with h
    rw [keyDs_inj ds es h1 h2 h]
  | .int i, .tuple es, _, _, h => by rw [keyD, keyD] at h; cases h
  | .tuple ds, .int j, _, _, h => by rw [keyD, keyD] at h; cases h
  | .none, _, h, _, _ => by simp only [numD] at h
  | .bool _, _, h, _, _ => by simp only [numD] at h
  | .str _, _, h, _, _ => by simp only [numD] at h
  | .list _, _, h, _, _ => by simp only [numD] at h
  | .dict _, _, h, _, _ => by simp only [numD] at h
  | _, .none, _, h, _ => by simp only [numD] at h
  | _, .bool _, _, h, _ => by simp only [numD] at h
  | _, .str _, _, h, _ => by simp only [numD] at h
  | _, .list _, _, h, _ => by simp only [numD] at h
  | _, .dict _, _, h, _ => by simp only [numD] at h
theorem keyDs_inj : ∀ ds es : List D, numDs ds → numDs es → keyDs ds = keyDs es → ds = es
  | [], [], _, _, _ => rfl
  | [], _ :: _, _, _, h => by rw [keyDs, keyDs] at h; cases h
  | _ :: _, [], _, _, h => by rw [keyDs, keyDs] at h; cases h
  | d :: ds, e :: es, h1, h2, h => by
    rw [keyDs, keyDs] at h
    rw [numDs] at h1 h2
    injection h with a b
    rw [keyD_inj d e h1.1 h2.1 a, keyDs_inj ds es h1.2 h2.2 b]
end
mutual
theorem keyD_depth : ∀ d : D, numD d → (keyD d).depth = d.depth
  | .int _, _ => by rw [keyD, NestedKey.depth, PyData.depth]
  | .tuple ds, h => by
    rw [numD] at h
    rw [keyD, NestedKey.depth, PyData.depth, keyDs_depth ds h]
  | .none, h => by simp only [numD] at h
  | .bool _, h => by simp only [numD] at h
  | .str _, h => by simp only [numD] at h
  | .list _, h => by simp only [numD] at h
  | .dict _, h => by simp only [numD] at h
theorem keyDs_depth : ∀ ds : List D, numDs ds → NestedKey.depthAll (keyDs ds) = PyData.depthAll ds
  | [], _ => by rw [keyDs, NestedKey.depthAll, PyData.depthAll]
  | d :: ds, h => by
    rw [numDs] at h
    rw [keyDs, NestedKey.depthAll, PyData.depthAll, keyD_depth d h.1, keyDs_depth ds h.2]
end
section
variable {X : Cx} {pins : List (Addr × Obj)} {σ : L2.St} {H : Hp} {s : Shared}
mutual
theorem Is.nest (I : Inv X pins σ H s) : ∀ {v : V} {d : D}, Is X.K H v d → numD d → ∀ u, RelV v u → NestedIs s.heap (keyD d) u
  | _, _, .int i, _, u, r => by
    obtain ⟨t, rfl⟩ := r
    rw [keyD]
    exact .int i t
  | _, _, .tup h a, n, u, r => by
    rw [numD] at n
    cases r
    rw [keyD]
    obtain ⟨its, rv, ⟨o, go, hc, k, hd⟩, _⟩ := I.tuple h.sq
    exact .tup go hc hd (by simpa using IsA.nest I a n its rv)
  | _, _, .non, n, _, _ => by simp only [numD] at n
  | _, _, .bl b, n, _, _ => by simp only [numD] at n
  | _, _, .str x, n, _, _ => by simp only [numD] at n
  | _, _, .lst h a, n, _, _ => by simp only [numD] at n
  | _, _, .dic h a, n, _, _ => by simp only [numD] at n
theorem IsA.nest (I : Inv X pins σ H s) : ∀ {vs : List V} {ds : List D}, IsA X.K H vs ds → numDs ds → ∀ us, Vals vs us → NestedAll s.heap (keyDs ds) us
  | _, _, .nil, _, us, r => by
    cases r
    rw [keyDs]
    exact .nil
  | _, _, .cons h t, n, us, r => by
    rw [numDs] at n
    rw [keyDs]
    cases r with
    | cons r1 r2 => exact .cons (Is.nest I h n.1 _ r1) (IsA.nest I t n.2 _ r2)
end
end
/-- the set, as an object of the heap's part -/
def SetN (P : Program) (w : World) (a : Addr) (L : List (Addr × NestedKey)) : HO := .ext fun h => ∃ es ep t, Tbl (kdN P w) h a L es ep t
theorem setN_new {P : Program} {w : World} {H : Hp} {h : Heap} {a : Addr} {L : List (Addr × NestedKey)} (R : ∃ es ep t, Tbl (kdN P w) h a L es ep t) : ObjOk P w H h a (SetN P w a L) := by
  refine ⟨R, ?_, fun h1 h2 p k => ?_⟩
  · obtain ⟨es, ep, t, z⟩ := R
    obtain ⟨o, go, _⟩ := z.obj
    exact ⟨o, go⟩
  · obtain ⟨es, ep, t, z⟩ := p
    exact ⟨es, ep, t, z.same k⟩
theorem takesN {P : Program} {w : World} {A : Around} {S : Addr} {items : Array Value} {h0 : Heap} {ks : List (Addr × NestedKey)} (hi : items.toList = ks.map fun q => Value.ref q.1) (hk : ∀ q, q ∈ ks → (kdN P w).is h0 q.2 q.1) (hn : ks.length < 64) (hu : A.units + 8 < cLine) :
    K3.Takes P w A S items h0 (fun i h => ∃ L es ep t, Tbl (kdN P w) h S L es ep t ∧ L.length ≤ i ∧ ∀ q, q ∈ L → q ∈ ks) where
  keep := fun i h h' ⟨L, es, ep, t, R, r⟩ k _ => ⟨L, es, ep, t, R.same k, r⟩
  add := fun i v s Q E hv ⟨L, es, ep, t, R, h1, h2⟩ ke hQ => by
    rw [← Array.getElem?_toList, hi, List.getElem?_map] at hv
    obtain ⟨q, e1, e2⟩ : ∃ q, ks[i]? = some q ∧ v = Value.ref q.1 := by
      cases z : ks[i]? with
      | none => rw [z] at hv; cases hv
      | some q =>
        rw [z] at hv
        exact ⟨q, rfl, (Option.some.inj hv).symm⟩
    subst e2
    have hil := (List.getElem?_eq_some_iff.mp e1).1
    have hm : ∀ q', q' ∈ ks → ∀ h', (∀ b o, h0.get? b = some o → h'.get? b = some o) → (kdN P w).is h' q'.2 q'.1 := fun q' hq h' e => (kdN P w).mono (hk q' hq) e
    have hx := hm q (List.mem_of_getElem? e1) s.heap ke
    unfold setAdd
    refine wpAny_holding (wpAny_bind ((kdN P w).hash (A := A) hu hx fun t' ht => ?_))
    refine addK (s := { s with toks := t' }) R (fun q' hq' => hm q' (h2 q' hq') _ ke) hx hu (by omega) fun b h' L' es' ep' t2 sb R' y n => hQ b h' t' sb ht ⟨L', es', ep', t2, R', ?_⟩
    by_cases c : q.2 ∈ L.map (·.2)
    · rw [y c]
      exact ⟨by omega, h2⟩
    · have pm := n c
      refine ⟨by rw [pm.length_eq, List.length_cons]; omega, fun q' hq' => ?_⟩
      rcases List.mem_cons.mp (pm.mem_iff.mp hq') with e | hq'
      · rw [e]
        exact List.mem_of_getElem? e1
      · exact h2 q' hq'
/-- set(xs) -/
def rSetN (K : PySem.W.Frag) (P : Program) (w : World) : List V → Hp → VK → Prop := fun xs H Q => ∃ (l : Addr) (as : List Addr) (ds : List D), xs = [.ref l] ∧ SqL K H l (as.map V.ref) ∧ IsA K H (as.map V.ref) ds ∧ numDs ds ∧ (∀ d, d ∈ ds → d.depth ≤ 8) ∧ ds.length < 64 ∧
  ∀ (a : Addr) (L : List (Addr × NestedKey)), H a = none → (∀ q, q ∈ L → q ∈ as.zip (keyDs ds)) → L.length ≤ ds.length → (L.map (·.2)).Nodup → Q (.ref a) (upd H a (SetN P w a L))
theorem numDs_mem : ∀ {ds : List D} {d : D}, numDs ds → d ∈ ds → numD d
  | e :: ds, d, h, m => by
    rw [numDs] at h
    rcases List.mem_cons.mp m with z | z
    · rw [z]; exact h.1
    · exact numDs_mem h.2 z
theorem keyDs_eq : ∀ ds : List D, keyDs ds = ds.map keyD
  | [] => by rw [keyDs]; rfl
  | d :: ds => by rw [keyDs, keyDs_eq ds, List.map_cons]
theorem zip_get {α β : Type} : ∀ {as : List α} {bs : List β} {a : α} {b : β}, (a, b) ∈ as.zip bs → ∃ i : Nat, as[i]? = some a ∧ bs[i]? = some b := fun {as bs a b} h => by
  obtain ⟨i, e⟩ := List.getElem?_of_mem h
  rw [List.getElem?_zip_eq_some] at e
  exact ⟨i, e⟩
theorem cr_setN {X : Cx} (hc : X.calm = true) (hu : X.A.units + 64 < cLine) : CallR X (.type "set") (rSetN X.K X.prog X.w) := by
  intro pins s σ H xs us Q I r h
  obtain ⟨l, as, ds, rfl, hl, ha, hn, hd, hz, q⟩ := h
  rw [Vals.ref1 r]
  obtain ⟨its, rv, pl, _⟩ := I.list hl
  have hlen : as.length = ds.length := by rw [← ha.length, List.length_map]
  have ei : its = as.map Value.ref := by
    have key : ∀ {as : List Addr} {us : List Value}, Vals (as.map V.ref) us → us = as.map Value.ref := by
      intro as
      induction as with
      | nil => intro us h; cases h; rfl
      | cons a as ih =>
        intro us h
        cases h with
        | cons r t => cases r; rw [ih t]; rfl
    exact key rv
  have hk : ∀ q, q ∈ as.zip (keyDs ds) → (kdN X.prog X.w).is s.heap q.2 q.1 := fun q hq => by
    obtain ⟨i, e1, e2⟩ := zip_get hq
    rw [keyDs_eq, List.getElem?_map] at e2
    obtain ⟨d, e3, e4⟩ : ∃ d, ds[i]? = some d ∧ keyD d = q.2 := by
      cases z : ds[i]? with
      | none => rw [z] at e2; cases e2
      | some d => rw [z] at e2; exact ⟨d, rfl, Option.some.inj e2⟩
    obtain ⟨v, f1, f2⟩ := ha.get e3
    rw [List.getElem?_map, e1] at f1
    obtain rfl := Option.some.inj f1
    have nd := numDs_mem hn (List.mem_of_getElem? e3)
    rw [← e4]
    exact ⟨f2.nest I nd _ rfl, by rw [keyD_depth d nd]; exact hd d (List.mem_of_getElem? e3), numK_of d nd⟩
  have hzip : as = (as.zip (keyDs ds)).map (·.1) := by rw [List.map_fst_zip (by rw [keyDs_eq, List.length_map]; omega)]
  have hit : its.toArray.toList = (as.zip (keyDs ds)).map fun q => Value.ref q.1 := by
    rw [List.toList_toArray, ei]
    conv => lhs; rw [hzip]
    rw [List.map_map]
    rfl
  refine call_set_gen (J := fun i h => ∃ L es ep t, Tbl (kdN X.prog X.w) h s.heap.objs.size L es ep t ∧ L.length ≤ i ∧ ∀ q, q ∈ L → q ∈ as.zip (keyDs ds)) (I.ok.hd hc) pl.isList (takesN hit hk (by rw [List.length_zip]; omega) (by simp only [Around.in1_units] <;> omega)) (fun h hg _ => ⟨[], #[], 0, _, ⟨⟨_, hg, ⟨rfl, rfl, rfl⟩, rfl⟩, rfl, ⟨.nil, rfl, rfl, .inl rfl, fun x hx => (by cases hx), fun i h j hi => (by simp [hsK] at hi)⟩, .nil, rfl, ?_, by show 0 < 7 * 3; decide, by show 0 < 64; decide⟩, Nat.le_refl _, fun q hq => (by cases hq)⟩) fun h' tk ⟨L, es, ep, t, R, h1, h2⟩ k => ?_
  · show _ ∨ (!X.w.params.followText "set-order") = true
    cases X.w.params.followText "set-order"
    · exact .inr rfl
    · exact .inl rfl
  · have hn := I.hok.fresh (a := s.heap.objs.size) (Nat.le_refl _)
    rw [List.size_toArray, ei, List.length_map, hlen] at h1
    exact ⟨.ref s.heap.objs.size, _, I.laid (t' := tk) k (Nat.le_refl _) (setN_new ⟨es, ep, t, R⟩), rfl, q _ L hn h2 h1 R.once⟩
end K3
end

section
set_option autoImplicit true
set_option Elab.async false
set_option linter.all false
set_option maxRecDepth 100000
set_option maxHeartbeats 1000000
/-! sorted(set(xs)), xs a list of ints. -/
namespace K3
open PySem PySem.Spec PyProof.Rows L2
theorem takes_ints {P : Program} {w : World} {A : Around} {S : Addr} {items : Array Value} {h0 : Heap} {ns : List Int} (hi : IntsAre items.toList ns) (hb : ns.length + 1 < scanBound) :
    K3.Takes P w A S items h0 (fun i h => ∃ c, c ≤ i ∧ SetR w h S (fun j => decide (j ∈ ns.take i)) c) where
  keep := fun i h h' ⟨c, hc, R⟩ k _ => ⟨c, hc, R.at k⟩
  add := fun i v s Q E hv ⟨c, hc, R⟩ _ hQ => by
    obtain ⟨z, t, rfl, hz⟩ := hi.at i v (by rw [Array.getElem?_toList]; exact hv)
    have hil : i < ns.length := (List.getElem?_eq_some_iff.mp hz).1
    unfold setAdd
    refine wpAny_holding ?_
    refine wpAny_bind ((intKind P w).pyHash (k := z) (intKind_is _ _ _ _) ?_)
    refine setR_add_hashed (s := { s with toks := s.toks + 1 }) R (by omega) fun h' hsb hS2 => hQ _ h' (s.toks + 1) hsb (Nat.le_succ _) ⟨if decide (z ∈ ns.take i) = true then c else c + 1, by split <;> omega, hS2.congr fun j => ?_⟩
    rw [List.take_add_one, hz]
    simp [List.mem_append]
def rSetI (K : PySem.W.Frag) (w : World) : List V → Hp → VK → Prop := fun xs H Q => ∃ (l : Addr) (ns : List Int), xs = [.ref l] ∧ SqL K H l (ns.map V.int) ∧ ns.length ≤ 1000 ∧ ∀ (a : Addr) (c : Nat), c ≤ ns.length → H a = none → Q (.ref a) (upd H a (SetO w a (fun j => decide (j ∈ ns)) c))
theorem cr_setI {X : Cx} (hc : X.calm = true) : CallR X (.type "set") (rSetI X.K X.w) := by
  intro pins s σ H xs us Q I r h
  obtain ⟨l, ns, rfl, hl, hn, q⟩ := h
  rw [Vals.ref1 r]
  obtain ⟨its, rv, pl, hz⟩ := I.list hl
  have hi : IntsAre its.toArray.toList ns := by
    have := rv.ints
    simpa using this
  have hlen : its.toArray.size = ns.length := by rw [List.size_toArray, ← rv.length, List.length_map]
  refine call_set_gen (J := fun i h => ∃ c, c ≤ i ∧ SetR X.w h s.heap.objs.size (fun j => decide (j ∈ ns.take i)) c) (I.ok.hd hc) pl.isList (takes_ints hi (by unfold scanBound; omega)) (fun h hg _ => ⟨0, Nat.le_refl _, setR_new_at hg⟩) fun h' tk ⟨c, hcl, R⟩ k => ?_
  rw [hlen, List.take_length] at R
  rw [hlen] at hcl
  have hn := I.hok.fresh (a := s.heap.objs.size) (Nat.le_refl _)
  exact ⟨.ref s.heap.objs.size, _, I.laid (t' := tk) k (Nat.le_refl _) (setO_new R), rfl, q _ c hcl hn⟩
section
variable {X : Cx} {S : Sto X.K} {Q : D → Prop} {e : Expr} {pos p pp p2 : Pos}
/-- sorted(set(e)) of a list of ints -/
theorem w_sortedSet (T : Tx X.K X.mg) (hc : X.calm = true) (h : W X e S fun d => ∃ ns : List Int, d = .list (ns.map .int) ∧ ns.length < 64 ∧ ∀ ms : List Int, ms.Pairwise (· < ·) → (∀ k, k ∈ ms ↔ k ∈ ns) → Q (.list (ms.map .int))) (hg : Gl X "sorted" := by rfl) (hg2 : Gl X "set" := by rfl)
    (he : starEach [Expr.Call (.Name "set" pp) [e] [] p2] X.env = (false, eval (Expr.Call (.Name "set" pp) [e] [] p2) X.env) :: starEach [] X.env := by rfl) (he2 : starEach [e] X.env = (false, eval e X.env) :: starEach [] X.env := by rfl) : W X (.Call (.Name "sorted" p) [.Call (.Name "set" pp) [e] [] p2] [] pos) S Q := fun ow H σ Q' st k => by
  refine PE.we (pe_callB (cr_sortedSet hc) hg T.free (by decide +kernel) (pa_cons (pe_callTy (cr_setI hc) hg2 T.free (by decide +kernel) (pa_cons pe_W pa_nil he2) (he := he2)) pa_nil he) (he := he)) ?_
  refine h ow H σ _ st fun d v ow1 H1 q st1 e1 i1 => ?_
  obtain ⟨ns, rfl, hn, q⟩ := q
  cases i1 with
  | @lst l vs _ pl a =>
    rw [a.ints] at pl
    refine ⟨l, ns, rfl, SqL.of (pt_le _ _ pl), by omega, fun s c hcl hs => ?_⟩
    have ex1 : Ex H1 (upd H1 s (SetO X.w s (fun j => decide (j ∈ ns)) c)) := Evl.Ex.new hs
    refine ⟨s, _, c, rfl, upd_same, by omega, fun ms b hp hm _ hb => ?_⟩
    have ex2 := Evl.Ex.new (o := .lst (ms.map V.int)) hb
    have ex := ex1.trans ex2
    refine k _ _ (nw ow1 H1) _ (q ms hp fun k => by rw [hm k]; exact decide_eq_true_iff) (st1.ext ex) (e1.trans (.ext ex)) (.lst (pt_of (nw_new ?_) upd_same) (IsA.of_ints _))
    cases z : H1 b with
    | none => rfl
    | some o =>
      have := ex1 _ _ z
      rw [hb] at this
      cases this
end
end K3
end

section
set_option autoImplicit true
set_option Elab.async false
set_option linter.all false
set_option maxRecDepth 100000
set_option maxHeartbeats 1000000
/-! A slot's own dict of own lists. -/
namespace K3
open PySem PySem.Spec PyProof.Rows L2
/-- entries: a key, a list of its own -/
inductive OL (K : PySem.W.Frag) (F G : Hp) : List (Key × V) → List (Int × List D) → Prop
  | nil : OL K F G [] []
  | cons {n : Int} {a : Addr} {vs : List V} {xs : List D} {kvs : List (Key × V)} {ks : List (Int × List D)} : G a = some (.lst vs) → IsA K F vs xs → OL K F G kvs ks → OL K F G ((Sum.inl n, .ref a) :: kvs) ((n, xs) :: ks)
theorem OL.mono {K : PySem.W.Frag} {F F' G G' : Hp} (e : Ex F F') (g : Ex G G') : ∀ {kvs : List (Key × V)} {ks : List (Int × List D)}, OL K F G kvs ks → OL K F' G' kvs ks
  | _, _, .nil => .nil
  | _, _, .cons h a t => .cons (g _ _ h) (a.mono e) (OL.mono e g t)
def odlP (K : PySem.W.Frag) (ks : List (Int × List D)) (F G : Hp) (v : Option V) : Prop := ∃ (l : Addr) (kvs : List (Key × V)), v = some (.ref l) ∧ G l = some (.dK kvs) ∧ OL K F G kvs ks ∧ (kvs.map (·.2)).Nodup
def Sv.odl {K : PySem.W.Frag} (ks : List (Int × List D)) : Sv K := ⟨odlP K ks, fun e g h => by
  obtain ⟨l, kvs, h1, h2, h3, h4⟩ := h
  exact ⟨l, kvs, h1, g _ _ h2, h3.mono e g, h4⟩⟩
theorem Std.odl {K : PySem.W.Frag} {ow : Addr → Nat} {H : Hp} {σ : L2.St} {S : Sto K} (st : Std K ow H σ S) {i : Nat} {ks : List (Int × List D)} (h : S[i]? = some (.odl ks)) :
    ∃ l kvs, σ[i]? = some (some (.ref l)) ∧ H l = some (.dK kvs) ∧ ow l = i + 1 ∧ OL K (fz ow H) (pt ow (i + 1) H) kvs ks ∧ (kvs.map (·.2)).Nodup := by
  obtain ⟨l, kvs, e, g, q, nd⟩ := st.sl i _ h
  obtain ⟨g1, g2⟩ := pt_some g
  refine ⟨l, kvs, ?_, g1, g2, q, nd⟩
  cases r : σ[i]? with
  | none =>
    rw [r] at e
    cases e
  | some z =>
    rw [r] at e
    have e' : z = some (.ref l) := e
    rw [e']
theorem mergeK_new : ∀ (kvs acc : List (Key × V)), ((acc ++ kvs).map (·.1)).Nodup → mergeK acc kvs = acc ++ kvs
  | [], acc, _ => by rw [List.append_nil]; rfl
  | (k, v) :: kvs, acc, nd => by
    have hn : ¬ (acc.any fun kv => decide (kv.1 = k)) = true := fun c => by
      obtain ⟨p, hp, e⟩ := List.any_eq_true.mp c
      rw [List.map_append, List.map_cons] at nd
      have := (List.nodup_append.mp nd).2.2 p.1 (List.mem_map.mpr ⟨p, hp, rfl⟩) k List.mem_cons_self
      exact this (of_decide_eq_true e)
    show mergeK (putK acc k v) kvs = _
    have e1 : putK acc k v = acc ++ [(k, v)] := by
      unfold putK
      rw [if_neg hn]
    rw [e1, mergeK_new kvs (acc ++ [(k, v)]) (by rw [List.append_assoc]; exact nd), List.append_assoc]
    rfl
section
variable {X : Cx} {S : Sto X.K} {e iter : Expr} {scope : Scope} {pos lp tp p p1 p2 p3 : Pos} {x : Str} {kk : Nat}
/-- dict([(x, []) for x in e]), e ints, each once -/
theorem wv_newDL (j : Nat) (own : List (Str × Nat)) {QS : Sv X.K → Prop} (T : Tx X.K X.mg) (nd : X.N.Nodup) (ok : BlkOk X.N X.env.scope scope own) (hid : Idle S (own.map (·.2)))
    (h : WI X (.Name x tp) iter S true fun ds => ∃ ns : List Int, ds = ns.map .int ∧ ns.Nodup ∧ ns.length ≤ 1000 ∧ QS (.odl (ns.map fun n => (n, [])))) (hc : X.calm = true := by rfl) (hN : X.N[j]? = some x := by rfl) (hx : scope.names.lookup x = some .local := by rfl)
    (hj : Nat.blt j S.length = true := by rfl) (hv : (own.map (·.2)).contains j = true := by rfl) (hg : Gl X "dict" := by rfl) (hs : ∀ x, foldedSetIterable iter X.env x = pure x := by intro _; rfl)
    (hd : (x == ("__debug__" : Str)) = false := by decide) (hcd : (x == ("__classdict__" : Str)) = false := by decide)
    (he : starEach [Expr.ListComp (.Tuple [.Name x p1, .List [] p2] kk p3) [⟨.Name x tp, iter, [], 0⟩] scope lp] X.env = (false, eval (Expr.ListComp (.Tuple [.Name x p1, .List [] p2] kk p3) [⟨.Name x tp, iter, [], 0⟩] scope lp) X.env) :: starEach [] X.env := by rfl) :
    WV X (.Call (.Name "dict" p) [.ListComp (.Tuple [.Name x p1, .List [] p2] kk p3) [⟨.Name x tp, iter, [], 0⟩] scope lp] [] pos) S QS := fun ow H σ Q' st k => by
  have hjv : j ∈ own.map (·.2) := by simpa using hv
  have hjS : j < S.length := Nat.le_of_ble_eq_true hj
  refine PE.we (pe_callTy (call_dictP hc) hg T.free (by decide +kernel) (pa_cons (pe_lc (g := gName j) (tt := fun (σ : L2.St) (H : Hp) (Q : Bool → Hp → Prop) => ∀ (s : Shared) (H0 : Hp) (C : Addr) (cl : List (Str × Addr)) (fp : List Addr), WTsr (Bk X scope s H0 C cl fp) [] σ H Q)
    (te := fun (σ : L2.St) (H : Hp) (Q : VK) => ∀ (s : Shared) (H0 : Hp) (C : Addr) (cl : List (Str × Addr)) (fp : List Addr), WE (Bk X scope s H0 C cl fp) (.Tuple [.Name x p1, .List [] p2] kk p3) σ H Q) hc nd pi_W ok (fun s H C cl fp => pg_name (i := j) nd hN (.inl (bkl hx)) (.inr (bkl hx)))
    (fun s H C cl fp => ⟨fun pins s2 σ2 H2 Q I q => (q s H C cl fp).r pins s2 I⟩) (fun s H C cl fp => ⟨fun pins s2 σ2 H2 Q I q => (q s H C cl fp).r pins s2 I⟩) hs) pa_nil he) (he := he)) ?_
  refine h ow H σ _ st fun ds J ow1 H1 q st1 e1 hJ A hA => ?_
  obtain ⟨ns, rfl, hnd, hnl, q⟩ := q
  let Wv : Nat → Hp → Prop := fun i H' => ∃ L : List (Int × Addr × Addr), L.map (·.1) = ns.take i ∧ i ≤ ns.length ∧ H' A = some (.lst (L.map fun z => V.ref z.2.1)) ∧ (∀ z, z ∈ L → H' z.2.1 = some (.tup [.int z.1, .ref z.2.2]) ∧ H' z.2.2 = some (.lst []) ∧ H1 z.2.2 = none ∧ z.2.2 ≠ A) ∧ (L.map (·.2.2)).Nodup ∧ Ex H1 H'
  refine ⟨fun i mm H' => mm = ns.length - i ∧ Wv i H', ⟨_, rfl, [], rfl, Nat.zero_le _, upd_same, fun z hz => (nomatch hz), List.nodup_nil, Evl.Ex.new hA⟩, ?_⟩
  rintro i mm H' ⟨rfl, L, hL, hi, hHA, hLz, hLn, ex⟩
  have J' := hJ (fz ow1 H1) H' (Evl.Ex.refl _) (pt_le.trans ex) i
  have hLl : L.length = i := by
    have := congrArg List.length hL
    rw [List.length_map, List.length_take] at this
    omega
  by_cases hlt : i < ns.length
  · obtain ⟨n, hn⟩ : ∃ n, ns[i]? = some n := ⟨ns[i], List.getElem?_eq_getElem hlt⟩
    obtain ⟨go, yl⟩ := J'.2 (.int n) (by rw [List.getElem?_map, hn]; rfl)
    refine .inr ⟨go, Wv (i + 1), fun H2 w => ⟨ns.length - (i + 1), by omega, rfl, w⟩, fun y H2 hy => ?_⟩
    obtain ⟨ex2, yy⟩ := yl y H2 hy
    have ey : y = .int n := by
      rcases yy with yy | ⟨h0, _⟩
      · cases yy
        rfl
      · cases h0
    subst ey
    refine ⟨wipe_set (by rw [List.length_set, wipe_length]) fun m hm => ?_, fun s H0 C cl fp => PTs.we pts_nil ?_⟩
    · rw [List.getElem?_set_ne]
      intro c
      rw [← c] at hm
      exact hm hjv
    unfold tYes
    dsimp only
    rw [if_pos rfl]
    intro s' H0' C' cl' fp'
    refine PE.we (pe_tup (pa_cons (pe_var (i := j) (X := Bk X scope s' H0' C' cl' fp') hN (.inl (bkl hx)) hd hcd) (pa_cons (pe_lst pa_nil) pa_nil))) ?_
    have hσ : ((L2.wipe σ (own.map (·.2))).set j (some (V.int n)))[j]? = some (some (V.int n)) := by
      rw [List.getElem?_set_self (by rw [wipe_length, ← st1.len]; exact hjS)]
    refine ⟨_, hσ, by show 0 ≤ sizeLine; exact Nat.zero_le _, fun l hl => ⟨by show 2 ≤ sizeLine; decide, fun t ht => ?_⟩⟩
    have exl : Ex H2 (upd H2 l (.lst [])) := Evl.Ex.new hl
    have ext : Ex (upd H2 l (.lst [])) (upd (upd H2 l (.lst [])) t (.tup [.int n, .ref l])) := Evl.Ex.new ht
    have ex3 := ex2.trans (exl.trans ext)
    have hA4 := ex3 _ _ hHA
    have nA : ∀ {b o}, H' b = some o → b ≠ A → upd (upd (upd H2 l (.lst [])) t (.tup [.int n, .ref l])) A (.lst ((L.map fun z => V.ref z.2.1) ++ [.ref t])) b = some o := fun {b o} h1 h2 => by
      rw [upd_ne h2]
      exact ex3 _ _ h1
    have hlA : l ≠ A := fun c => by
      rw [c] at hl
      rw [ex2 _ _ hHA] at hl
      cases hl
    have hlt2 : t ≠ l := fun c => by
      rw [c, upd_same] at ht
      cases ht
    have htA : t ≠ A := fun c => by
      rw [c, exl _ _ (ex2 _ _ hHA)] at ht
      cases ht
    refine ⟨_, hA4, by rw [List.length_map, hLl]; exact slt (by omega), L ++ [(n, t, l)], ?_, hlt, ?_, fun z hz => ?_, ?_, fun a o ha => ?_⟩
    · rw [List.map_append, hL, List.take_add_one, hn]
      rfl
    · rw [upd_same, List.map_append]
      rfl
    · rcases List.mem_append.mp hz with hz | hz
      · obtain ⟨z1, z2, z3, z4⟩ := hLz z hz
        refine ⟨nA z1 fun c => ?_, nA z2 z4, z3, z4⟩
        rw [c, hHA] at z1
        cases z1
      · rw [List.mem_singleton] at hz
        subst hz
        refine ⟨by rw [upd_ne htA, upd_same], by rw [upd_ne hlA, upd_ne (Ne.symm hlt2), upd_same], ?_, hlA⟩
        exact ex_dom (ex.trans ex2) _ hl
    · rw [List.map_append]
      refine List.nodup_append.mpr ⟨hLn, (by simp : ([(n, t, l)].map fun z : Int × Addr × Addr => z.2.2).Nodup), fun a ha b hb => ?_⟩
      have hb' : b = l := by simpa using hb
      obtain ⟨z, hz, ez⟩ := List.mem_map.mp ha
      intro c
      have := (hLz z hz).2.1
      rw [ez, c, hb'] at this
      rw [ex2 _ _ this] at hl
      cases hl
    · have h2 := ex3 _ _ (ex _ _ ha)
      rw [upd_ne fun c => ?_]
      · exact h2
      · rw [c, hA] at ha
        cases ha
  · have hie : i = ns.length := by omega
    subst hie
    refine .inl ⟨J'.1 (by rw [List.length_map]; exact Nat.le_refl _), ?_⟩
    rw [List.take_length] at hL
    have hp : Paired (fun p kv => SqT X.K H' p [kV kv.1, kv.2]) (L.map (·.2.1)) (L.map fun z => ((Sum.inl z.1 : Key), V.ref z.2.2)) := by
      have key : ∀ L' : List (Int × Addr × Addr), (∀ z, z ∈ L' → z ∈ L) → Paired (fun p kv => SqT X.K H' p [kV kv.1, kv.2]) (L'.map (·.2.1)) (L'.map fun z => ((Sum.inl z.1 : Key), V.ref z.2.2)) := by
        intro L'
        induction L' with
        | nil => intro _; exact .nil
        | cons z L' ih => exact fun hm => .cons (SqT.of (hLz z (hm z List.mem_cons_self)).1) (ih fun y hy => hm y (List.mem_cons_of_mem _ hy))
      exact key L fun z hz => hz
    refine ⟨A, L.map (·.2.1), L.map fun z => ((Sum.inl z.1 : Key), V.ref z.2.2), rfl, SqL.of (by rw [hHA, List.map_map]; rfl), hp, fun d hd => ?_⟩
    have hm : mergeK [] (L.map fun z => ((Sum.inl z.1 : Key), V.ref z.2.2)) = L.map fun z => ((Sum.inl z.1 : Key), V.ref z.2.2) := by
      refine mergeK_new _ [] ?_
      rw [List.nil_append, List.map_map]
      have e2 : ((fun kv : Key × V => kv.1) ∘ fun z : Int × Addr × Addr => ((Sum.inl z.1 : Key), V.ref z.2.2)) = (fun n : Int => (Sum.inl n : Key)) ∘ fun z : Int × Addr × Addr => z.1 := rfl
      rw [e2, ← List.map_map, hL]
      exact List.pairwise_map.mpr (hnd.imp fun h c => h (Sum.inl.inj c))
    rw [hm]
    have exd : Ex H' (upd H' d (.dK (L.map fun z => ((Sum.inl z.1 : Key), V.ref z.2.2)))) := Evl.Ex.new hd
    have exx := ex.trans exd
    have hd1 : H1 d = none := ex_dom ex _ hd
    let B : Addr → Prop := fun a => a = d ∨ ∃ z, z ∈ L ∧ z.2.2 = a
    have hB : ∀ a, B a → H1 a = none := fun a ha => by
      rcases ha with rfl | ⟨z, hz, rfl⟩
      · exact hd1
      · exact (hLz z hz).2.2.1
    let ow' : Addr → Nat := fun a => @ite _ (B a) (Classical.propDecidable _) (S.length + 1) (nw ow1 H1 a)
    have w1 : ∀ a, B a → ow' a = S.length + 1 := fun a ha => if_pos ha
    have w2 : ∀ {a o}, H1 a = some o → ow' a = ow1 a := fun {a o} ha => by
      show (@ite _ (B a) (Classical.propDecidable _) (S.length + 1) (nw ow1 H1 a)) = _
      rw [if_neg (fun c => by rw [hB a c] at ha; cases ha), nw_old ha]
    have w3 : ∀ {a}, H1 a = none → ow' a = 0 ∨ ow' a = S.length + 1 := fun {a} ha => by
      by_cases c : B a
      · exact .inr (w1 a c)
      · left
        show (@ite _ (B a) (Classical.propDecidable _) (S.length + 1) (nw ow1 H1 a)) = 0
        rw [if_neg c, nw_new ha]
    have fze : Ex (fz ow1 H1) (fz ow' (upd H' d (.dK (L.map fun z => ((Sum.inl z.1 : Key), V.ref z.2.2))))) := fun a o ha => by
      obtain ⟨a1, a2⟩ := pt_some ha
      exact pt_of ((w2 a1).trans a2) (exx _ _ a1)
    have pte : ∀ m, m ≠ 0 → m ≠ S.length + 1 → pt ow' m (upd H' d (.dK (L.map fun z => ((Sum.inl z.1 : Key), V.ref z.2.2)))) = pt ow1 m H1 := fun m h0 hm => by
      funext a
      unfold pt
      cases ha : H1 a with
      | none =>
        have : ow' a ≠ m := by
          rcases w3 ha with c | c <;> omega
        rw [if_neg this]
        split <;> rfl
      | some o => rw [w2 ha, exx _ _ ha]
    refine k (.odl (ns.map fun n => (n, []))) (.ref d) ow' _ q ⟨st1.len, fun i s hs => ?_⟩ (e1.trans ⟨fze, fun m hm a o ha => ?_, ex_dom exx⟩) ⟨d, _, rfl, zn_of (e1.dm d hd1) (w1 d (.inl rfl)) upd_same, ?_, ?_⟩
    · have hi' : i < S.length := (List.getElem?_eq_some_iff.mp hs).1
      rw [pte (i + 1) (by omega) (by omega)]
      exact s.mono fze (Evl.Ex.refl _) (st1.sl i s hs)
    · obtain ⟨a1, a2⟩ := pt_some ha
      exact pt_of ((w2 a1).trans a2) (exx _ _ a1)
    · rw [← hL, List.map_map]
      have key : ∀ L' : List (Int × Addr × Addr), (∀ z, z ∈ L' → z ∈ L) → OL X.K (fz ow' (upd H' d (.dK (L.map fun z => ((Sum.inl z.1 : Key), V.ref z.2.2))))) (zn S.length ow' H (upd H' d (.dK (L.map fun z => ((Sum.inl z.1 : Key), V.ref z.2.2))))) (L'.map fun z => ((Sum.inl z.1 : Key), V.ref z.2.2)) (L'.map ((fun n => (n, ([] : List D))) ∘ fun z => z.1)) := by
        intro L'
        induction L' with
        | nil => intro _; exact .nil
        | cons z L' ih =>
          intro hm
          obtain ⟨z1, z2, z3, z4⟩ := hLz z (hm z List.mem_cons_self)
          exact .cons (zn_of (e1.dm _ z3) (w1 _ (.inr ⟨z, hm z List.mem_cons_self, rfl⟩)) (exd _ _ z2)) .nil (ih fun y hy => hm y (List.mem_cons_of_mem _ hy))
      exact key L fun z hz => hz
    · rw [List.map_map]
      have e2 : ((fun kv : Key × V => kv.2) ∘ fun z : Int × Addr × Addr => ((Sum.inl z.1 : Key), V.ref z.2.2)) = V.ref ∘ fun z : Int × Addr × Addr => z.2.2 := rfl
      rw [e2, ← List.map_map]
      exact List.pairwise_map.mpr (hLn.imp fun h c => h (V.ref.inj c))
end
end K3
end

section
set_option autoImplicit true
set_option Elab.async false
set_option linter.all false
set_option maxRecDepth 100000
set_option maxHeartbeats 1000000
/-! d[k].extend(xs), the dict frozen. -/
namespace K3
open PySem PySem.Spec PyProof.Rows L2
def lookL (ks : List (Int × List D)) (n : Int) : Option (List D) := (ks.find? fun p => decide (p.1 = n)).map (·.2)
def updL (ks : List (Int × List D)) (n : Int) (ys : List D) : List (Int × List D) := ks.map fun p => if p.1 = n then (p.1, p.2 ++ ys) else p
section
variable {K : PySem.W.Frag} {F G G' : Hp}
theorem OL.look (n : Int) : ∀ {kvs : List (Key × V)} {ks : List (Int × List D)} {xs : List D}, OL K F G kvs ks → lookL ks n = some xs → ∃ a vs, valV kvs (Sum.inl n) = some (.ref a) ∧ (Sum.inl n, V.ref a) ∈ kvs ∧ G a = some (.lst vs) ∧ IsA K F vs xs
  | _, _, _, .nil, h => by cases h
  | _, _, xs, .cons (n := k) (a := a) (vs := vs) (xs := ys) (ks := ks0) h1 h2 t, h => by
    by_cases e : k = n
    · subst e
      unfold lookL at h
      rw [List.find?_cons, decide_eq_true (show ((k, ys) : Int × List D).1 = k from rfl)] at h
      cases h
      exact ⟨a, vs, valV_pos rfl, List.mem_cons_self, h1, h2⟩
    · have h' : lookL ks0 n = some xs := by
        unfold lookL at h ⊢
        rw [List.find?_cons, decide_eq_false (show ¬ ((k, ys) : Int × List D).1 = n from e)] at h
        exact h
      obtain ⟨a', vs', z1, z2, z3, z4⟩ := OL.look n t h'
      refine ⟨a', vs', ?_, List.mem_cons_of_mem _ z2, z3, z4⟩
      rw [valV_neg (by exact fun q => e (Sum.inl.inj q))]
      exact z1
theorem OL.other {a : Addr} (g : ∀ b o, b ≠ a → G b = some o → G' b = some o) : ∀ {kvs : List (Key × V)} {ks : List (Int × List D)}, V.ref a ∉ kvs.map (·.2) → OL K F G kvs ks → OL K F G' kvs ks
  | _, _, _, .nil => .nil
  | _, _, hn, .cons h1 h2 t => by
    rw [List.map_cons, List.mem_cons, not_or] at hn
    exact .cons (g _ _ (fun c => hn.1 (by rw [c])) h1) h2 (OL.other g hn.2 t)
theorem OL.upd {a : Addr} {n : Int} {ws : List V} {xs ys : List D} (g : ∀ b o, b ≠ a → G b = some o → G' b = some o) (ha : G' a = some (.lst ws)) (hw : IsA K F ws (xs ++ ys)) : ∀ {kvs : List (Key × V)} {ks : List (Int × List D)}, OL K F G kvs ks → (kvs.map (·.2)).Nodup → (ks.map (·.1)).Nodup → lookL ks n = some xs → (Sum.inl n, V.ref a) ∈ kvs → OL K F G' kvs (updL ks n ys)
  | _, _, .nil, _, _, h, _ => by cases h
  | _, _, .cons (n := k) (a := a0) (vs := vs) (xs := zs) (kvs := kvs) (ks := ks) h1 h2 t, nd, nk, h, hm => by
    rw [List.map_cons, List.nodup_cons] at nd nk
    by_cases e : k = n
    · subst e
      have hx : zs = xs := by
        unfold lookL at h
        rw [List.find?_cons, decide_eq_true (show ((k, zs) : Int × List D).1 = k from rfl)] at h
        exact Option.some.inj h
      subst hx
      have hkn : ∀ {kvs : List (Key × V)} {ks : List (Int × List D)}, OL K F G kvs ks → ∀ v, (Sum.inl k, v) ∈ kvs → k ∈ ks.map (·.1) := by
        intro kvs ks h
        induction h with
        | nil => intro v hv; cases hv
        | cons _ _ _ ih =>
          intro v hv
          rcases List.mem_cons.mp hv with c | c
          · cases c
            exact List.mem_cons_self
          · exact List.mem_cons_of_mem _ (ih v c)
      have ha0 : a0 = a := by
        rcases List.mem_cons.mp hm with c | c
        · injection c with c1 c2
          exact (V.ref.inj c2).symm
        · exact absurd (hkn t _ c) nk.1
      subst ha0
      have hu : updL ((k, zs) :: ks) k ys = (k, zs ++ ys) :: ks := by
        unfold updL
        rw [List.map_cons, if_pos rfl]
        refine congrArg _ ?_
        have : ∀ p, p ∈ ks → (if p.1 = k then (p.1, p.2 ++ ys) else p) = p := fun p hp => by
          rw [if_neg]
          intro c
          exact nk.1 (List.mem_map.mpr ⟨p, hp, c⟩)
        rw [List.map_congr_left this, List.map_id']
      rw [hu]
      exact .cons ha hw (OL.other g nd.1 t)
    · have h' : lookL ks n = some xs := by
        unfold lookL at h ⊢
        rw [List.find?_cons, decide_eq_false (show ¬ ((k, zs) : Int × List D).1 = n from e)] at h
        exact h
      have hm' : (Sum.inl n, V.ref a) ∈ kvs := by
        rcases List.mem_cons.mp hm with c | c
        · injection c with c1 c2
          exact absurd (Sum.inl.inj c1).symm e
        · exact c
      have hne : a0 ≠ a := fun c => nd.1 (by rw [c]; exact List.mem_map.mpr ⟨_, hm', rfl⟩)
      have hu : updL ((k, zs) :: ks) n ys = (k, zs) :: updL ks n ys := by
        unfold updL
        rw [List.map_cons, if_neg (show ¬ ((k, zs) : Int × List D).1 = n from e)]
      rw [hu]
      exact .cons (g _ _ hne h1) h2 (OL.upd g ha hw t nd.2 nk.2 h' hm')
theorem OL.len : ∀ {kvs : List (Key × V)} {ks : List (Int × List D)}, OL K F G kvs ks → kvs.length = ks.length
  | _, _, .nil => rfl
  | _, _, .cons _ _ t => by rw [List.length_cons, List.length_cons, OL.len t]
def dlD (ks : List (Int × List D)) : List (Int × D) := ks.map fun p => (p.1, .list p.2)
theorem OL.isK {F' : Hp} (e : Ex F F') (g : ∀ a vs, G a = some (.lst vs) → F' a = some (.lst vs)) : ∀ {kvs : List (Key × V)} {ks : List (Int × List D)}, OL K F G kvs ks → IsK K F' kvs (dlD ks)
  | _, _, .nil => .nil
  | _, _, .cons h a t => .cons (.lst (g _ _ h) (a.mono e)) (OL.isK e g t)
end
section
variable {X : Cx} {S : Sto X.K} {D0 : De X.K} {ke : Expr} {sts : List Stmt} {pos epos spos apos cpos : Pos} {x y : Str} {px py : Pos}
/-- d[k].extend(y) -/
theorem ws_extendDL (i j : Nat) {ks : List (Int × List D)} {ys : List D} (hu : X.A.units + 1 < cLine) (hS : S[i]? = some (.odl ks)) (hSj : S[j]? = some (.dat (.list ys))) (hnk : (ks.map (·.1)).Nodup)
    (h : W X ke S fun z => ∃ (n : Int) (xs : List D), z = .int n ∧ lookL ks n = some xs ∧ xs.length + ys.length ≤ 100000 ∧ D0.nx (S.set i (.odl (updL ks n ys)))) (hN : X.N[i]? = some x := by rfl) (hv : Vis X.env.scope x := by first | exact Or.inl rfl | exact Or.inr (Or.inl rfl) | exact Or.inr (Or.inr rfl))
    (hd : (x == ("__debug__" : Str)) = false := by decide) (hcd : (x == ("__classdict__" : Str)) = false := by decide)
    (hN2 : X.N[j]? = some y := by rfl) (hv2 : Vis X.env.scope y := by first | exact Or.inl rfl | exact Or.inr (Or.inl rfl) | exact Or.inr (Or.inr rfl))
    (hd2 : (y == ("__debug__" : Str)) = false := by decide) (hcd2 : (y == ("__classdict__" : Str)) = false := by decide) (hsl : NoSl ke := by intro _ _; rfl)
    (he : starEach [Expr.Name y py] X.env = (false, eval (Expr.Name y py) X.env) :: starEach [] X.env := by rfl)
    (hbase : attributeBase (.Subscript (.Name x px) ke spos) "extend" X.env (eval (.Subscript (.Name x px) ke spos) X.env) = eval (.Subscript (.Name x px) ke spos) X.env := by rfl)
    (hfew : ((backTo cpos (starEach [Expr.Name y py] X.env)).all (fun x => !x.1) && (backToKw cpos (keywordEach [] X.env)).all (fun x => x.1.isSome)
      && decide ([Expr.Name y py].length + ([] : List Keyword).length + (if ([] : List Keyword).isEmpty then 0 else 1) < 30)) = true := by rfl)
    (hline : (apos.endLine == cpos.line) = true := by rfl) (hsw : swapsWith (.Call (.Attribute (.Subscript (.Name x px) ke spos) "extend" apos) [.Name y py] [] cpos) none epos.line X.env = pure false := by rfl) :
    WS X (.Expr (.Call (.Attribute (.Subscript (.Name x px) ke spos) "extend" apos) [.Name y py] [] cpos) epos) S D0 := fun ow H σ E st m => by
  refine PS.we (ps_expr (pe_bm PySem.F.plainAttrs_list PySem.F.slot_list_extend PySem.F.type_list_extend mt_extend (pe_dget hu (pe_var hN hv hd hcd) pe_W hsl) (pa_cons (pe_var hN2 hv2 hd2 hcd2) pa_nil he) hbase hfew hline he) hsw) ?_
  obtain ⟨l, kvs, ev, g, o, ol, nda⟩ := st.odl hS
  refine ⟨_, ev, ?_⟩
  refine h ow H σ _ st fun z v ow1 H1 q st1 e1 i1 => ?_
  obtain ⟨n, xs, rfl, hlk, hz, q⟩ := q
  cases i1
  obtain ⟨l1, kvs1, ev1, g1, o1, ol1, nda1⟩ := st1.odl hS
  rw [ev] at ev1
  cases ev1
  obtain ⟨a, vs, z1, z2, z3, z4⟩ := ol1.look n hlk
  obtain ⟨z5, z6⟩ := pt_some z3
  refine ⟨l, .ref a, rfl, .inl ⟨kvs1, Sum.inl n, .inl g1, rfl, z1.symm⟩, .inl ⟨rfl, vs, SqL.of z5⟩, ?_⟩
  obtain ⟨w, ew, iw⟩ := st1.dat hSj
  refine ⟨w, ew, ?_⟩
  cases iw with
  | @lst b ws _ pb ab =>
    refine ⟨a, b, vs, ws, rfl, rfl, z5, pt_le _ _ pb, Nat.le_trans (by rw [z4.length, ab.length]; exact hz) (by decide : 100000 ≤ sizeLine), ?_⟩
    have hi : i < S.length := (List.getElem?_eq_some_iff.mp hS).1
    have hal : a ≠ l := fun c => by
      rw [c, g1] at z5
      cases z5
    have gk : ∀ b o, b ≠ a → pt ow1 (i + 1) H1 b = some o → pt ow1 (i + 1) (upd H1 a (.lst (vs ++ ws))) b = some o := fun b o hb hbo => by
      obtain ⟨b1, b2⟩ := pt_some hbo
      exact pt_of b2 (by rw [upd_ne hb]; exact b1)
    have ok : (Sv.odl (updL ks n ys) : Sv X.K).ok (fz ow1 H1) (pt ow1 (i + 1) (upd H1 a (.lst (vs ++ ws)))) (σ[i]?.join) := by
      rw [ev]
      exact ⟨l, kvs1, rfl, gk _ _ (Ne.symm hal) (pt_of o1 g1), ol1.upd gk (pt_of z6 upd_same) (z4.append ab) nda1 hnk hlk z2, nda1⟩
    obtain ⟨st2, e2⟩ := st1.upd (o := .lst (vs ++ ws)) z6 hi (some_ne z5) ok
    exact m.nx _ ow1 _ _ q (by rw [List.length_set]) st2 (e1.trans e2)
/-- .. it is data from then on -/
theorem wss_frzL (i : Nat) {ks : List (Int × List D)} (h : S[i]? = some (.odl ks)) (q : WSs X sts (S.set i (.dat (dicD (dlD ks)))) D0) : WSs X sts S D0 := fun ow H σ E std m => .mk fun pins s I => by
  obtain ⟨l, kvs, ev, g, o, ol, nda⟩ := std.odl h
  obtain ⟨od, I1⟩ := I.lock g trivial
  have hi : i < S.length := (List.getElem?_eq_some_iff.mp h).1
  have hne : ∀ {a}, ow a ≠ i + 1 → a ≠ l := fun {a} c e => c (by rw [e]; exact o)
  have fze : Ex (fz ow H) (fz (fun a => if ow a = i + 1 then 0 else ow a) (upd H l (.frz od (.dK kvs)))) := fun a u z => by
    obtain ⟨z1, z2⟩ := pt_some z
    refine pt_of ?_ (by rw [upd_ne (hne (by omega))]; exact z1)
    show (if ow a = i + 1 then 0 else ow a) = 0
    rw [if_neg (by omega)]
    exact z2
  have pte : ∀ n, n ≠ i + 1 → n ≠ 0 → pt (fun a => if ow a = i + 1 then 0 else ow a) n (upd H l (.frz od (.dK kvs))) = pt ow n H := fun n h1 h0 => by
    funext a
    unfold pt
    show (if (if ow a = i + 1 then 0 else ow a) = n then upd H l (.frz od (.dK kvs)) a else none) = if ow a = n then H a else none
    by_cases c : ow a = i + 1
    · rw [if_pos c, if_neg (Ne.symm h0), if_neg (by omega)]
    · rw [if_neg c, upd_ne (hne c)]
  refine (q (fun a => if ow a = i + 1 then 0 else ow a) (upd H l (.frz od (.dK kvs))) σ E ⟨by rw [List.length_set]; exact std.len, fun j s hs => ?_⟩ ?_).r pins s I1
  · by_cases ej : j = i
    · subst ej
      rw [List.getElem?_set_self hi] at hs
      cases hs
      rw [ev]
      refine ⟨.ref l, rfl, .dic ⟨od, pt_of (if_pos o) upd_same⟩ (ol.isK fze fun a vs ha => ?_)⟩
      obtain ⟨a1, a2⟩ := pt_some ha
      refine pt_of (if_pos a2) ?_
      rw [upd_ne (fun c => by rw [c, g] at a1; cases a1)]
      exact a1
    · rw [List.getElem?_set_ne (Ne.symm ej)] at hs
      rw [pte (j + 1) (by omega) (by omega)]
      exact s.mono fze (Evl.Ex.refl _) (std.sl j s hs)
  · have st : Stp S.length ow H (fun a => if ow a = i + 1 then 0 else ow a) (upd H l (.frz od (.dK kvs))) := by
      refine ⟨fze, fun n hn => by rw [pte n (by omega) (by omega)]; exact Evl.Ex.refl _, fun a ha => ?_⟩
      by_cases c : a = l
      · rw [c, upd_same] at ha
        cases ha
      · rw [upd_ne c] at ha
        exact ha
    rw [List.length_set]
    exact m.step st
end
end K3
end

section
set_option autoImplicit true
set_option Elab.async false
set_option linter.all false
set_option maxRecDepth 100000
set_option maxHeartbeats 1000000
namespace K3
open PySem PySem.Spec PyProof.Rows L2
section
variable {X : Cx} {S : Sto X.K} {elt iter : Expr} {ifs : List Expr} {scope : Scope} {pos tp p1 p2 p3 : Pos} {x y z : Str} {kk : Nat}
/-- a comprehension over pairs, frozen at once -/
theorem w_lcT2 (j k : Nat) (own : List (Str × Nat)) {Q : D → Prop} {p : Bool} (nd : X.N.Nodup) (ok : BlkOk X.N X.env.scope scope own) (hid : Idle S (own.map (·.2)))
    (h : WI X (.Tuple [.Name x p1, .Name y p2] kk tp) iter S p fun ds => LcQ X scope elt ifs S true [j, k] (own.map (·.2)) ds fun acc => Q (.list acc)) (hc : X.calm = true := by rfl) (hN : X.N[j]? = some x := by rfl) (hN2 : X.N[k]? = some y := by rfl)
    (hx : scope.names.lookup x = some .local := by rfl) (hy : scope.names.lookup y = some .local := by rfl)
    (hj : (([j, k] : List Nat).all fun j => Nat.blt j S.length) = true := by rfl) (hv : (([j, k] : List Nat).all fun j => (own.map (·.2)).contains j) = true := by rfl) (hs : ∀ x, foldedSetIterable iter X.env x = pure x := by intro _; rfl) : W X (.ListComp elt [⟨.Tuple [.Name x p1, .Name y p2] kk tp, iter, ifs, 0⟩] scope pos) S Q :=
  w_ofV (wv_lcT2 j k own nd ok hid (fun ow H σ R st k => h ow H σ R st fun ds J ow' H' q => k ds J ow' H' ⟨q.1, q.2.choose, q.2.choose_spec.1, q.2.choose_spec.2.1, fun acc a b => ⟨acc, rfl, q.2.choose_spec.2.2 acc a b⟩⟩) hc hN hN2 hx hy hj hv hs)
theorem w_lcT3 (j k l : Nat) (own : List (Str × Nat)) {Q : D → Prop} {p : Bool} (nd : X.N.Nodup) (ok : BlkOk X.N X.env.scope scope own) (hid : Idle S (own.map (·.2)))
    (h : WI X (.Tuple [.Name x p1, .Name y p2, .Name z p3] kk tp) iter S p fun ds => LcQ X scope elt ifs S true [j, k, l] (own.map (·.2)) ds fun acc => Q (.list acc)) (hc : X.calm = true := by rfl) (hN : X.N[j]? = some x := by rfl) (hN2 : X.N[k]? = some y := by rfl) (hN3 : X.N[l]? = some z := by rfl)
    (hx : scope.names.lookup x = some .local := by rfl) (hy : scope.names.lookup y = some .local := by rfl) (hz : scope.names.lookup z = some .local := by rfl)
    (hj : (([j, k, l] : List Nat).all fun j => Nat.blt j S.length) = true := by rfl) (hv : (([j, k, l] : List Nat).all fun j => (own.map (·.2)).contains j) = true := by rfl) (hs : ∀ x, foldedSetIterable iter X.env x = pure x := by intro _; rfl) : W X (.ListComp elt [⟨.Tuple [.Name x p1, .Name y p2, .Name z p3] kk tp, iter, ifs, 0⟩] scope pos) S Q :=
  w_ofV (wv_lcT3 j k l own nd ok hid (fun ow H σ R st k => h ow H σ R st fun ds J ow' H' q => k ds J ow' H' ⟨q.1, q.2.choose, q.2.choose_spec.1, q.2.choose_spec.2.1, fun acc a b => ⟨acc, rfl, q.2.choose_spec.2.2 acc a b⟩⟩) hc hN hN2 hN3 hx hy hz hj hv hs)
end
end K3
end

section
set_option Elab.async false
set_option linter.all false
set_option autoImplicit false
set_option maxRecDepth 100000
set_option maxHeartbeats 1600000
/-! sorted(set(xs)) over data. -/
namespace K3
open PySem PySem.Spec PyProof.Rows L2
mutual
theorem reads_num {h : Heap} : ∀ {v : Value} {d : D} {as : List Addr}, Reads h v d as → numD d → as = []
  | _, _, _, .none, n => by simp only [numD] at n
  | _, _, _, .bool _, n => by simp only [numD] at n
  | _, _, _, .int _ _, _ => rfl
  | _, _, _, .str _ _, n => by simp only [numD] at n
  | _, _, _, .list _ _ _ _, n => by simp only [numD] at n
  | _, _, _, .tuple _ _ _ h, n => by
    rw [numD] at n
    exact readsAll_num h n
  | _, _, _, .dict _ _ _ _ _, n => by simp only [numD] at n
theorem readsAll_num {h : Heap} : ∀ {vs : List Value} {ds : List D} {as : List Addr}, ReadsAll h vs ds as → numDs ds → as = []
  | _, _, _, .nil, _ => rfl
  | _, _, _, .cons h t, n => by
    rw [numDs] at n
    rw [reads_num h n.1, readsAll_num t n.2]
    rfl
end
mutual
theorem num_noDict : ∀ d : D, numD d → d.hasDict = false
  | .int _, _ => by rw [PyData.hasDict]; all_goals (intros; nofun)
  | .tuple ds, h => by
    rw [numD] at h
    rw [PyData.hasDict]
    exact nums_noDict ds h
  | .none, h => by simp only [numD] at h
  | .bool _, h => by simp only [numD] at h
  | .str _, h => by simp only [numD] at h
  | .list _, h => by simp only [numD] at h
  | .dict _, h => by simp only [numD] at h
theorem nums_noDict : ∀ ds : List D, numDs ds → PyData.hasDictAll ds = false
  | [], _ => by rw [PyData.hasDictAll]
  | d :: ds, h => by
    rw [numDs] at h
    rw [PyData.hasDictAll, num_noDict d h.1, nums_noDict ds h.2]
    rfl
end
/-- an order of images is one of things -/
theorem perm_lift {α β : Type} {f : α → β} {vs ws : List β} (p : vs.Perm ws) : ∀ L : List α, ws = L.map f → ∃ L' : List α, L'.Perm L ∧ vs = L'.map f := by
  induction p with
  | nil => exact fun L h => ⟨L, .refl _, h⟩
  | @cons x l1 l2 _ ih =>
    intro L h
    cases L with
    | nil => cases h
    | cons a L =>
      rw [List.map_cons] at h
      injection h with h1 h2
      obtain ⟨L', q, e⟩ := ih L h2
      exact ⟨a :: L', q.cons a, by rw [List.map_cons, h1, e]⟩
  | swap x y l =>
    intro L h
    match L, h with
    | a :: b :: L, h =>
      rw [List.map_cons, List.map_cons] at h
      injection h with h1 h2
      injection h2 with h2 h3
      exact ⟨b :: a :: L, .swap a b L, by rw [List.map_cons, List.map_cons, h1, h2, h3]⟩
  | trans _ _ ih1 ih2 =>
    intro L h
    obtain ⟨L2, q2, e2⟩ := ih2 L h
    obtain ⟨L1, q1, e1⟩ := ih1 L2 e2
    exact ⟨L1, q1.trans q2, e1⟩
section
variable {β : Type}
/-- sorted of such a set; bs: what stands in it, item by item -/
def rSortN (K : PySem.W.Frag) (P : Program) (w : World) (enc : β → D) : List V → Hp → VK → Prop := fun xs H Q => ∃ (F : Hp) (a : Addr) (L : List (Addr × NestedKey)) (bs : List β), xs = [.ref a] ∧ H a = some (SetN P w a L) ∧ Ex F H ∧ IsA K F (L.map fun q => V.ref q.1) (bs.map enc) ∧
  PySem.W.AllAlike (bs.map enc) ∧ PySem.W.Sortable (bs.map enc) ∧ (∀ b, b ∈ bs → numD (enc b) ∧ (enc b).depth ≤ 8) ∧
  ∀ (p : Addr) (ws : List V) (cs : List β), cs.Perm bs → cs.Pairwise (fun x y => PySem.W.dataLt (enc y) (enc x) = false) → H p = none → IsA K F ws (cs.map enc) → Q (.ref p) (upd H p (.lst ws))
theorem cr_sortN {X : Cx} (hc : X.calm = true) (hu : X.A.units + 64 < cLine) (enc : β → D) : CallR X (.builtin "sorted") (rSortN X.K X.prog X.w enc) := by
  intro pins s σ H xs us Q I r h
  obtain ⟨F, a, L, bs, rfl, ha, hF, hi, al, so, hn, q⟩ := h
  rw [Vals.ref1 r]
  have hob := I.hok a _ ha
  obtain ⟨⟨es, ep, t, R⟩, _, _⟩ := hob
  obtain ⟨o, go, hex, hd⟩ := R.obj
  have zl := entK_len R.ent
  have few := R.few
  have hL : L.length = bs.length := by
    have := hi.length
    rwa [List.length_map, List.length_map] at this
  refine Calls.call_function_entry kind_sorted plain_sorted entry_sorted (args_sorted1 _) ?_
  unfold Builtin.«sorted»
  refine wpAny_bind (m := checkCount "sorted" 1 1 _) (wpAny_pure ?_)
  refine wpAny_bind (collect_set (A := X.A.in1) (I.ok.hd hc) ⟨o, go, hex.1, hd⟩ R.fit (by unfold scanBound; omega) R.ok.ris R.ld fun s1 vs k1 hz g1 o1 pm => ?_)
  have e2 : es.toList.map (·.2) = (L.zip bs).map fun z => Value.ref z.1.1 := by
    have : L = (L.zip bs).map (·.1) := by rw [List.map_fst_zip (by omega)]
    rw [R.ent, entK, List.map_map]
    conv => lhs; rw [this]
    rw [List.map_map]
    rfl
  obtain ⟨Z, pz, ev⟩ := perm_lift pm _ e2
  have eb : (Z.map (·.2)).Perm bs := by
    have := pz.map (·.2)
    rwa [List.map_snd_zip (by omega)] at this
  have hat : ∀ z, z ∈ Z → Is X.K F (.ref z.1.1) (enc z.2) := fun z hz => by
    obtain ⟨i, e1, e2⟩ := zip_get (pz.mem_iff.mp hz : (z.1, z.2) ∈ _)
    obtain ⟨v, f1, f2⟩ := hi.get (i := i) (d := enc z.2) (by rw [List.getElem?_map, e2]; rfl)
    rw [List.getElem?_map, e1] at f1
    rw [← Option.some.inj f1] at f2
    exact f2
  have hbz : ∀ b, b ∈ Z.map (·.2) → b ∈ bs := fun b hb => eb.mem_iff.mp hb
  have vl : vs.length = bs.length := by rw [ev, List.length_map, ← eb.length_eq, List.length_map]
  refine wpAny_bind (wpAny_newList ?_ (by rw [sizeLine_eq]; omega))
  have gl : (s1.heap.push (seqObj "list" vs.toArray 0)).get? s1.heap.objs.size = some (seqObj "list" vs.toArray 0) := Heap.get?_push_size _ rfl
  have E1 : PySem.W.EachIs (fun u b => ∃ v, RelV v u ∧ Is X.K F v (enc b)) vs (Z.map (·.2)) := by
    rw [ev]
    have key : ∀ Z' : List ((Addr × NestedKey) × β), (∀ z, z ∈ Z' → Is X.K F (.ref z.1.1) (enc z.2)) → PySem.W.EachIs (fun u b => ∃ v, RelV v u ∧ Is X.K F v (enc b)) (Z'.map fun z => Value.ref z.1.1) (Z'.map (·.2)) := by
      intro Z'
      induction Z' with
      | nil => exact fun _ => .nil
      | cons z Z' ih => exact fun h => .cons ⟨.ref z.1.1, rfl, h z (List.mem_cons_self ..)⟩ (ih fun y hy => h y (List.mem_cons_of_mem _ hy))
    exact key Z hat
  have E2 : PySem.W.EachIs (fun u b => ∃ as, Reads (s1.heap.push (seqObj "list" vs.toArray 0)) u (enc b) as ∧ s1.heap.objs.size ∉ as) vs (Z.map (·.2)) := by
    have key : ∀ {us : List Value} {cs : List β}, (∀ c, c ∈ cs → numD (enc c)) → PySem.W.EachIs (fun u b => ∃ v, RelV v u ∧ Is X.K F v (enc b)) us cs → PySem.W.EachIs (fun u b => ∃ as, Reads (s1.heap.push (seqObj "list" vs.toArray 0)) u (enc b) as ∧ s1.heap.objs.size ∉ as) us cs := by
      intro us cs hm hh
      induction hh with
      | nil => exact .nil
      | cons h1 h2 ih =>
        obtain ⟨v, r1, i1⟩ := h1
        have nd := hm _ (List.mem_cons_self ..)
        obtain ⟨as, r2⟩ := Dp.reads I _ v _ ((i1.mono hF).dp (num_noDict _ nd)) r1
        refine .cons ⟨as, PyProof.Rows.Reads.keeps (fun b u e => Heap.get?_push_of_some _ (k1 b u e)) r2, ?_⟩ (ih fun c hc => hm c (List.mem_cons_of_mem _ hc))
        rw [reads_num r2 nd]
        exact List.not_mem_nil
    exact key (fun c hc => (hn c (hbz c hc)).1) E1
  have al' : PySem.W.AllAlike ((Z.map (·.2)).map enc) := fun d hd d' hd' => al d ((eb.map enc).mem_iff.mp hd) d' ((eb.map enc).mem_iff.mp hd')
  have so' : PySem.W.Sortable ((Z.map (·.2)).map enc) := so.imp (fun h d hd => h d ((eb.map enc).mem_iff.mp hd)) fun h d hd => h d ((eb.map enc).mem_iff.mp hd)
  refine wpAny_bind (wpAny_holding (PySem.W.list_sort_data (s := { s1 with heap := s1.heap.push (seqObj "list" vs.toArray 0) }) gl E1 E2 al' so' (by rw [eb.length_eq, sizeLine_eq]; omega) (fun b hb => ?_) fun out ho eo => ?_))
  · have := (hn b (hbz b hb)).2
    simp only [Around.in1_units]
    omega
  · obtain ⟨c, hcc⟩ := sortedHeap_at (vs := vs) (out := out.toArray) gl
    obtain ⟨ws, rw', aw⟩ := of_each enc eo
    have ex1 : ∀ b u, s.heap.get? b = some u → (sortedHeap (s1.heap.push (seqObj "list" vs.toArray 0)) s1.heap.objs.size vs out.toArray).get? b = some u := fun b u e => by
      have lt := Heap.lt_size (k1 b u e)
      rw [sortedHeap_old (Nat.ne_of_lt lt) (by rw [size_push']; exact Nat.lt_succ_of_lt lt)]
      exact Heap.get?_push_of_some _ (k1 b u e)
    have ns : H s1.heap.objs.size = none := I.hok.fresh hz
    have hlen : ws.length ≤ sizeLine := by
      rw [rw'.length, ho]
      exact szl (by rw [eb.length_eq]; omega)
    have hok := I.hok.laid (o := .lst ws) ex1 hz ⟨hlen, out, c, rw', hcc⟩
    have I2 : Inv X pins σ (upd H s1.heap.objs.size (.lst ws)) { s1 with heap := sortedHeap (s1.heap.push (seqObj "list" vs.toArray 0)) s1.heap.objs.size vs out.toArray } :=
      I.call' (ch := []) o1 (Un.laid ex1 hz ns) hok (by
        show AllBare s1.gens
        rw [g1]
        exact I.bare) fun _ z => nomatch z
    refine wpAny_pure ⟨_, rfl, ⟨.ref s1.heap.objs.size, _, I2, rfl, q _ ws _ ((List.mergeSort_perm _ _).trans eb) ?_ ns aw⟩⟩
    exact srt_asc (enc := enc) _
end
end K3
end

section
set_option Elab.async false
set_option linter.all false
set_option autoImplicit false
set_option maxRecDepth 100000
set_option maxHeartbeats 1600000
/-! sorted(set(xs)) as one expression. -/
namespace K3
open PySem PySem.Spec PyProof.Rows L2
section
variable {β : Type} {K : PySem.W.Frag} {H : Hp} {enc : β → D}
theorem pick_rows {as : List Addr} {bs : List β} (a : IsA K H (as.map V.ref) (bs.map enc)) : ∀ L : List (Addr × NestedKey), (∀ q, q ∈ L → q ∈ as.zip (keyDs (bs.map enc))) →
    ∃ cs : List β, IsA K H (L.map fun q => V.ref q.1) (cs.map enc) ∧ cs.map (fun c => keyD (enc c)) = L.map (·.2) ∧ ∀ c, c ∈ cs → c ∈ bs
  | [], _ => ⟨[], .nil, rfl, fun c h => by cases h⟩
  | q :: L, h => by
    obtain ⟨cs, h1, h2, h3⟩ := pick_rows a L fun r hr => h r (List.mem_cons_of_mem _ hr)
    obtain ⟨i, e1, e2⟩ := zip_get (h q (List.mem_cons_self ..) : (q.1, q.2) ∈ _)
    rw [keyDs_eq, List.map_map, List.getElem?_map] at e2
    cases z : bs[i]? with
    | none => rw [z] at e2; cases e2
    | some b =>
      rw [z] at e2
      have e3 : keyD (enc b) = q.2 := Option.some.inj e2
      obtain ⟨v, f1, f2⟩ := a.get (i := i) (d := enc b) (by rw [List.getElem?_map, z]; rfl)
      rw [List.getElem?_map, e1] at f1
      rw [← Option.some.inj f1] at f2
      refine ⟨b :: cs, .cons f2 h1, by rw [List.map_cons, List.map_cons, h2, e3], fun c hc => ?_⟩
      rcases List.mem_cons.mp hc with y | y
      · rw [y]
        exact List.mem_of_getElem? z
      · exact h3 c y
theorem refs_of {vs : List V} {ds : List D} (a : IsA K H vs ds) (h : ∀ d, d ∈ ds → ∃ ts, d = .tuple ts) : ∃ as : List Addr, vs = as.map V.ref := by
  have key : ∀ (vs : List V) (ds : List D), IsA K H vs ds → (∀ d, d ∈ ds → ∃ ts, d = .tuple ts) → ∃ as : List Addr, vs = as.map V.ref := by
    intro vs
    induction vs with
    | nil => exact fun _ _ _ => ⟨[], rfl⟩
    | cons v vs ih =>
      intro ds a h
      cases a with
      | @cons _ _ d ds h1 t =>
        obtain ⟨as, e⟩ := ih ds t fun d hd => h d (List.mem_cons_of_mem _ hd)
        obtain ⟨ts, e2⟩ := h d (List.mem_cons_self ..)
        subst e2
        cases h1 with
        | @tup a _ _ _ _ => exact ⟨a :: as, by rw [List.map_cons, e]⟩
  exact key vs ds a h
end
theorem numDs_map {β : Type} {enc : β → D} : ∀ {bs : List β}, (∀ b, b ∈ bs → numD (enc b)) → numDs (bs.map enc)
  | [], _ => by rw [List.map_nil, numDs]; trivial
  | b :: bs, h => by
    rw [List.map_cons, numDs]
    exact ⟨h b (List.mem_cons_self ..), numDs_map fun c hc => h c (List.mem_cons_of_mem _ hc)⟩
section
variable {X : Cx} {S : Sto X.K} {Q : D → Prop} {e : Expr} {pos p pp p2 : Pos} {β : Type}
/-- sorted(set(e)), e a list of tuples of ints and of such tuples -/
theorem w_sortedSetN (enc : β → D) (T : Tx X.K X.mg) {kk : Nat} (hr : Rm kk X.A) (hc : X.calm = true)
    (h : W X e S fun d => ∃ bs : List β, d = .list (bs.map enc) ∧ bs.length < 64 ∧ PySem.W.AllAlike (bs.map enc) ∧ PySem.W.Sortable (bs.map enc) ∧ (∀ b, b ∈ bs → numD (enc b) ∧ (enc b).depth ≤ 8 ∧ ∃ ts, enc b = .tuple ts) ∧
      ∀ cs : List β, (∀ c, c ∈ cs → c ∈ bs) → cs.length ≤ bs.length → cs.Nodup → Asc enc cs → Q (.list (cs.map enc))) (hg : Gl X "sorted" := by rfl) (hg2 : Gl X "set" := by rfl)
    (he : starEach [Expr.Call (.Name "set" pp) [e] [] p2] X.env = (false, eval (Expr.Call (.Name "set" pp) [e] [] p2) X.env) :: starEach [] X.env := by rfl) (he2 : starEach [e] X.env = (false, eval e X.env) :: starEach [] X.env := by rfl) : W X (.Call (.Name "sorted" p) [.Call (.Name "set" pp) [e] [] p2] [] pos) S Q := fun ow H σ Q' st k => by
  have hu : X.A.units + 64 < cLine := by
    have := hr.1.un
    omega
  refine PE.we (pe_callB (cr_sortN (β := β) hc hu enc) hg T.free (by decide +kernel) (pa_cons (pe_callTy (cr_setN hc hu) hg2 T.free (by decide +kernel) (pa_cons pe_W pa_nil he2) (he := he2)) pa_nil he) (he := he)) ?_
  refine h ow H σ _ st fun d v ow1 H1 q st1 e1 i1 => ?_
  obtain ⟨bs, rfl, hn, al, so, hb, q⟩ := q
  cases i1 with
  | @lst l vs _ pl a =>
    have a' := a
    obtain ⟨as, rfl⟩ := refs_of a' fun d hd => by
      obtain ⟨b, hb', rfl⟩ := List.mem_map.mp hd
      exact (hb b hb').2.2
    have aH : IsA X.K H1 (as.map V.ref) (bs.map enc) := a.mono pt_le
    refine ⟨l, as, bs.map enc, rfl, SqL.of (pt_le _ _ pl), aH, numDs_map fun b hb' => (hb b hb').1, fun d hd => ?_, by rw [List.length_map]; exact hn, fun s L hs hL lL once => ?_⟩
    · obtain ⟨b, hb', rfl⟩ := List.mem_map.mp hd
      exact (hb b hb').2.1
    rw [List.length_map] at lL
    obtain ⟨cs, c1, c2, c3⟩ := pick_rows (a : IsA X.K (fz ow1 H1) _ _) L hL
    have ex1 : Ex H1 (upd H1 s (SetN X.prog X.w s L)) := Evl.Ex.new hs
    have cl : cs.length = L.length := by
      have := congrArg List.length c2
      rwa [List.length_map, List.length_map] at this
    have nd : cs.Nodup := by
      rw [← c2] at once
      exact List.Pairwise.of_map _ (fun _ _ ne e => ne (by rw [e])) once
    refine ⟨fz ow1 H1, s, L, cs, rfl, upd_same, pt_le.trans ex1, c1, fun d hd d' hd' => ?_, ?_, fun c hc => ⟨(hb c (c3 c hc)).1, (hb c (c3 c hc)).2.1⟩, fun b ws ds pm asc hb' aw => ?_⟩
    · obtain ⟨c, hc, rfl⟩ := List.mem_map.mp hd
      obtain ⟨c', hc', rfl⟩ := List.mem_map.mp hd'
      exact al _ (List.mem_map_of_mem (c3 c hc)) _ (List.mem_map_of_mem (c3 c' hc'))
    · exact so.imp (fun h d hd => by
        obtain ⟨c, hc, rfl⟩ := List.mem_map.mp hd
        exact h _ (List.mem_map_of_mem (c3 c hc))) fun h d hd => by
        obtain ⟨c, hc, rfl⟩ := List.mem_map.mp hd
        exact h _ (List.mem_map_of_mem (c3 c hc))
    · have ex2 := Evl.Ex.new (o := .lst ws) hb'
      have ex := ex1.trans ex2
      have hb1 : H1 b = none := by
        cases z : H1 b with
        | none => rfl
        | some o =>
          have := ex1 _ _ z
          rw [hb'] at this
          cases this
      have dl := pm.length_eq
      refine k _ _ (nw ow1 H1) _ (q ds (fun c hc => c3 c (pm.mem_iff.mp hc)) (by omega) (pm.nodup_iff.mpr nd) asc) (st1.ext ex) (e1.trans (.ext ex)) (.lst (pt_of (nw_new hb1) upd_same) (aw.mono ?_))
      exact fz_le ex
end
end K3
end

section
set_option autoImplicit true
set_option Elab.async false
set_option linter.all false
set_option maxRecDepth 100000
set_option maxHeartbeats 1000000
/-! Plain things: programs, entries, tables, as data. -/
namespace K3
open PySem PySem.Spec PyProof.Rows L2
inductive Pr where
  | hole
  | node (s : Nat) (ps : List Pr)
namespace Pr
mutual
theorem ind' {P : Pr → Prop} (h0 : P .hole) (h1 : ∀ s ps, (∀ p, p ∈ ps → P p) → P (.node s ps)) : ∀ p, P p
  | .hole => h0
  | .node s ps => h1 s ps (inds' h0 h1 ps)
theorem inds' {P : Pr → Prop} (h0 : P .hole) (h1 : ∀ s ps, (∀ p, p ∈ ps → P p) → P (.node s ps)) : ∀ ps : List Pr, ∀ p, p ∈ ps → P p
  | [], _, h => by cases h
  | q :: qs, p, h => by
    rcases List.mem_cons.mp h with e | h
    · rw [e]
      exact ind' h0 h1 q
    · exact inds' h0 h1 qs p h
end
mutual
def enc : Pr → D
  | .hole => .none
  | .node s ps => .tuple (dN s :: encs ps)
def encs : List Pr → List D
  | [] => []
  | p :: ps => enc p :: encs ps
end
theorem encs_eq : ∀ ps : List Pr, encs ps = ps.map enc
  | [] => rfl
  | p :: ps => by rw [encs, encs_eq ps, List.map_cons]
theorem enc_node (s : Nat) (ps : List Pr) : enc (.node s ps) = .tuple (dN s :: ps.map enc) := by rw [enc, encs_eq]
mutual
def depth : Pr → Nat
  | .hole => 0
  | .node _ ps => 1 + depths ps
def depths : List Pr → Nat
  | [] => 0
  | p :: ps => max (depth p) (depths ps)
end
theorem depths_mem : ∀ {ps : List Pr} {p : Pr}, p ∈ ps → p.depth ≤ depths ps
  | q :: qs, p, h => by
    rw [depths]
    rcases List.mem_cons.mp h with e | h
    · rw [e]
      omega
    · have := depths_mem h
      omega
theorem depth_part {s n : Nat} {ps : List Pr} {p : Pr} (h : (Pr.node s ps).depth ≤ n + 1) (hp : p ∈ ps) : p.depth ≤ n := by
  have := depths_mem hp
  rw [depth] at h
  omega
mutual
def size : Pr → Nat
  | .hole => 1
  | .node _ ps => 1 + sizes ps
def sizes : List Pr → Nat
  | [] => 0
  | p :: ps => size p + sizes ps
end
theorem sizes_eq : ∀ ps : List Pr, sizes ps = (ps.map size).sum
  | [] => rfl
  | p :: ps => by rw [sizes, sizes_eq ps, List.map_cons, List.sum_cons]
theorem size_pos : ∀ p : Pr, 1 ≤ p.size
  | .hole => Nat.le_refl _
  | .node _ _ => by rw [size]; omega
mutual
theorem depth_le_size : ∀ p : Pr, p.depth ≤ p.size
  | .hole => Nat.zero_le _
  | .node s ps => by
    rw [size, depth]
    have := depths_le_sizes ps
    omega
theorem depths_le_sizes : ∀ ps : List Pr, depths ps ≤ sizes ps
  | [] => Nat.le_refl _
  | p :: ps => by
    rw [sizes, depths]
    have := depth_le_size p
    have := depths_le_sizes ps
    omega
end
theorem sizes_mem : ∀ {ps : List Pr} {p : Pr}, p ∈ ps → p.size ≤ sizes ps
  | q :: qs, p, h => by
    rw [sizes]
    rcases List.mem_cons.mp h with e | h
    · rw [e]
      omega
    · have := sizes_mem h
      omega
theorem length_le_sizes : ∀ ps : List Pr, ps.length ≤ sizes ps
  | [] => Nat.le_refl _
  | p :: ps => by
    rw [sizes, List.length_cons]
    have := size_pos p
    have := length_le_sizes ps
    omega
theorem size_mem_node {s : Nat} {ps : List Pr} {p : Pr} (h : p ∈ ps) : p.size ≤ (Pr.node s ps).size := by
  have := sizes_mem h
  rw [size]
  omega
/-! the signs that stand in it satisfy P -/
mutual
def AllS (P : Nat → List Pr → Prop) : Pr → Prop
  | .hole => True
  | .node s ps => P s ps ∧ AllSs P ps
def AllSs (P : Nat → List Pr → Prop) : List Pr → Prop
  | [] => True
  | p :: ps => AllS P p ∧ AllSs P ps
end
theorem allSs_mem {P : Nat → List Pr → Prop} : ∀ {ps : List Pr} {p : Pr}, AllSs P ps → p ∈ ps → AllS P p
  | q :: qs, p, h, m => by
    rw [AllSs] at h
    rcases List.mem_cons.mp m with e | m
    · rw [e]
      exact h.1
    · exact allSs_mem h.2 m
theorem allSs_of {P : Nat → List Pr → Prop} : ∀ {ps : List Pr}, (∀ p, p ∈ ps → AllS P p) → AllSs P ps
  | [], _ => by rw [AllSs]; trivial
  | q :: qs, h => by
    rw [AllSs]
    exact ⟨h q List.mem_cons_self, allSs_of fun p m => h p (List.mem_cons_of_mem _ m)⟩
/-! without a hole -/
mutual
def full : Pr → Prop
  | .hole => False
  | .node _ ps => fulls ps
def fulls : List Pr → Prop
  | [] => True
  | p :: ps => full p ∧ fulls ps
end
theorem fulls_mem : ∀ {ps : List Pr} {p : Pr}, fulls ps → p ∈ ps → full p
  | q :: qs, p, h, m => by
    rw [fulls] at h
    rcases List.mem_cons.mp m with e | m
    · rw [e]
      exact h.1
    · exact fulls_mem h.2 m
theorem fulls_of : ∀ {ps : List Pr}, (∀ p, p ∈ ps → full p) → fulls ps
  | [], _ => by rw [fulls]; trivial
  | q :: qs, h => by
    rw [fulls]
    exact ⟨h q List.mem_cons_self, fulls_of fun p m => h p (List.mem_cons_of_mem _ m)⟩
/-! signs renumbered -/
mutual
def ren (σ : List Nat) : Pr → Pr
  | .hole => .hole
  | .node s ps => .node (σ.idxOf s) (rens σ ps)
def rens (σ : List Nat) : List Pr → List Pr
  | [] => []
  | p :: ps => ren σ p :: rens σ ps
end
theorem rens_eq (σ : List Nat) : ∀ ps : List Pr, rens σ ps = ps.map (ren σ)
  | [] => rfl
  | p :: ps => by rw [rens, rens_eq σ ps, List.map_cons]
/-! a node put in another's place -/
mutual
def put : Pr → Nat → Pr → Pr
  | .hole, k, o => if k = 0 then o else .hole
  | .node s ps, k, o => if k = 0 then o else .node s (puts 1 ps k o)
def puts : Nat → List Pr → Nat → Pr → List Pr
  | _, [], _, _ => []
  | f, p :: ps, k, o => (if f ≤ k ∧ k < f + p.size then put p (k - f) o else p) :: puts (f + p.size) ps k o
end
end Pr
structure En where
  s : Nat
  ps : List Nat
  k : Nat
def En.enc (e : En) : D := .tuple [dN e.s, tN e.ps, dN e.k]
structure Tb where
  many : Nat
  signs : List Nat
  ents : List En
def encE (es : List En) : D := .tuple (es.map En.enc)
def Tb.enc (t : Tb) : D := .tuple [dN t.many, tN t.signs, encE t.ents]
def renE (κ σ : List Nat) (e : En) : En := ⟨σ.idxOf e.s, e.ps.map κ.idxOf, κ.idxOf e.k⟩
end K3
end

section
set_option autoImplicit true
set_option Elab.async false
set_option linter.all false
set_option maxRecDepth 100000
set_option maxHeartbeats 1000000
namespace K3
open PySem PySem.Spec PyProof.Rows L2
section
variable {P : Program} {w : World} {K : PySem.W.Frag} {mg : Str → Option Value} {base : Heap}
/-! ### renumbered_reading -/
def spRenR : Spf := fun ds R => ∃ r κ : List Nat, ds = [tN r, tN κ] ∧ r.length ≤ 1000 ∧ (∀ k, k ∈ r → k ∈ κ) ∧ R (tN (r.map κ.idxOf))
theorem sc6 : FnScope ["reading", "kinds", "kind"] ["reading", "kinds"] (defScope (top 6)) := ⟨rfl, rfl, rfl, by decide +kernel, rfl, by decide +kernel, by decide +kernel⟩
theorem ok_renR (T : Tx K mg) : FnN P w K mg base 1 "renumbered_reading" ["reading", "kinds"] (spD K spRenR) := by
  obtain ⟨f, fd, F, hmg⟩ := T.top (x := "renumbered_reading") (j := 6) 3
  refine fnD_of F hmg sc6 (fun _ _ _ _ _ _ us hl => match us, hl with | [_, _], _ => rfl) (fun ds R h => by obtain ⟨r, κ, rfl, _⟩ := h; rfl) fun cdv A outer s H E ds R hr h => ?_
  obtain ⟨r, κ, rfl, hz, hin, q⟩ := h
  refine wss_one (ws_ret (w_tuple T ?_))
  refine w_lcN 2 [("kind", 2)] sc6.nd (blkOk_by (N := ["reading", "kinds", "kind"]) (sc := defScope (top 6)) (by decide +kernel)) (idle1 rfl) ?_
  refine wi_tup (w_var 0 rfl ⟨_, rfl, ?_⟩)
  refine lcq_map r dN (fun k => dN (κ.idxOf k)) (Nat.lt_of_le_of_lt hz (by decide)) (fun a ha => ⟨_, rfl, fun s H C cl fp => ?_⟩) ⟨_, rfl, ?_⟩
  · exact w_indexN (w_var 1 rfl ⟨κ, rfl, w_var 2 rfl ⟨a, rfl, hin a ha, rfl⟩⟩)
  · have e : r.map (fun k => dN (κ.idxOf k)) = (r.map κ.idxOf).map dN := by rw [List.map_map]; rfl
    rw [e]
    exact q
/-! ### renumbered_program -/
def spRenP (n : Nat) : Spf := fun ds R => ∃ (p : Pr) (σ : List Nat), ds = [p.enc, tN σ] ∧ p.depth ≤ n ∧ p.size ≤ 1000 ∧ p.AllS (fun s _ => s ∈ σ) ∧ R (p.ren σ).enc
theorem sc5 : FnScope ["program", "signs", "part"] ["program", "signs"] (defScope (top 5)) := ⟨rfl, rfl, rfl, by decide +kernel, rfl, by decide +kernel, by decide +kernel⟩
theorem isN_enc (p : Pr) : isN p.enc = (match p with | .hole => true | .node _ _ => false) := by
  cases p with
  | hole => rw [Pr.enc]; rfl
  | node s ps => rw [Pr.enc]; rfl
theorem ok_renP (T : Tx K mg) : ∀ n : Nat, FnN P w K mg base (n + 1) "renumbered_program" ["program", "signs"] (spD K (spRenP n)) := by
  intro n
  induction n with
  | zero => exact go T 0 (fun _ h => by omega)
  | succ n ih => exact go T (n + 1) (fun m h => by
      have e : m = n := by omega
      subst e
      exact ih)
where
  go (T : Tx K mg) (n : Nat) (ih : ∀ m, n = m + 1 → FnN P w K mg base (m + 1) "renumbered_program" ["program", "signs"] (spD K (spRenP m))) : FnN P w K mg base (n + 1) "renumbered_program" ["program", "signs"] (spD K (spRenP n)) := by
    obtain ⟨f, fd, F, hmg⟩ := T.top (x := "renumbered_program") (j := 5) 2
    refine fnD_of F hmg sc5 (fun _ _ _ _ _ _ us hl => match us, hl with | [_, _], _ => rfl) (fun ds R h => by obtain ⟨r, κ, rfl, _⟩ := h; rfl) fun cdv A outer s H E ds R hr h => ?_
    obtain ⟨p, σ, rfl, hd, hz, hin, q⟩ := h
    cases p with
    | hole =>
      refine wss_cons (ws_if (wt_cmp (w_var 0 rfl (w_none (od_is ⟨_, rfl, ?_⟩)))))
      rw [Pr.enc]
      exact wss_one (ws_ret (w_none (by rw [Pr.ren, Pr.enc] at q; exact q)))
    | node s ps =>
      obtain ⟨m, rfl⟩ : ∃ m, n = m + 1 := ⟨n - 1, by rw [Pr.depth] at hd; omega⟩
      rw [Pr.AllS] at hin
      rw [Pr.enc_node]
      refine wss_cons (ws_if (wt_cmp (w_var 0 rfl (w_none (od_is ⟨_, rfl, wss_nil fun _ => ?_⟩)))))
      refine wss_one (ws_ret (w_tup (wa_cons (w_indexN (w_var 1 rfl ⟨σ, rfl, w_ix (w_var 0 rfl (w_int (xd_tup (i := 0) rfl ⟨s, rfl, hin.1, wa_star ?_⟩)))⟩)))))
      refine w_lcN 2 [("part", 2)] sc5.nd (blkOk_by (N := ["program", "signs", "part"]) (sc := defScope (top 5)) (by decide +kernel)) (idle1 rfl) ?_
      refine wi_tup (w_sl (w_var 0 rfl (w_int ⟨1, rfl, sd_tup ⟨ps.map Pr.enc, by rw [cutD_tail], ?_⟩⟩)))
      have hl : ps.length ≤ 1000 := by
        have h1 := Pr.length_le_sizes ps
        rw [Pr.size] at hz
        omega
      refine lcq_map ps Pr.enc (fun p => (p.ren σ).enc) (Nat.lt_of_le_of_lt hl (by decide)) (fun a ha => ⟨_, rfl, fun s H C cl fp => ?_⟩) ⟨_, .inl rfl, wa_nil ⟨?_, ?_⟩⟩
      · refine w_call (ih m rfl) hr (Nat.le_refl _) (wa_cons (w_var 2 rfl (wa_cons (w_var 1 rfl (wa_nil ?_)))))
        exact ⟨a, σ, rfl, Pr.depth_part hd ha, Nat.le_trans (Pr.size_mem_node ha) hz, Pr.allSs_mem hin.2 ha, rfl⟩
      · rw [List.length_cons, List.length_append, List.length_map, List.length_nil]
        exact Nat.le_trans (by omega) (by decide : 1001 ≤ sizeLine)
      · rw [Pr.ren, Pr.enc_node, Pr.rens_eq, List.map_map] at q
        rw [List.append_nil]
        exact q
end
end K3
end

section
set_option autoImplicit true
set_option Elab.async false
set_option linter.all false
set_option maxRecDepth 100000
set_option maxHeartbeats 1000000
namespace K3
open PySem PySem.Spec PyProof.Rows L2
section
variable {X : Cx} {S : Sto X.K} {Q : D → Prop} {e e2 o : Expr} {es : List Expr} {pos p : Pos}
theorem sum_ofNat : ∀ ns : List Nat, (ns.map Int.ofNat).sum = ((ns.sum : Nat) : Int)
  | [] => rfl
  | n :: ns => by rw [List.map_cons, List.sum_cons, List.sum_cons, sum_ofNat ns]; rfl
theorem w_sumN (T : Tx X.K X.mg) (h : W X e S fun d => ∃ ns : List Nat, (d = .list (ns.map dN) ∨ d = .tuple (ns.map dN)) ∧ Q (dN ns.sum)) (hc : X.calm = true := by rfl) (hg : Gl X "sum" := by rfl) (he : starEach [e] X.env = (false, eval e X.env) :: starEach [] X.env := by rfl) : W X (.Call (.Name "sum" p) [e] [] pos) S Q :=
  w_sum T hc (h.mono fun d ⟨ns, ed, q⟩ => ⟨ns.map Int.ofNat, by rw [← dN_map]; exact ed, by rw [sum_ofNat]; exact q⟩) hg he
/-- n + e -/
theorem w_addN (h : W X e S fun d => ∃ a : Nat, d = dN a ∧ W X e2 S fun d2 => ∃ b : Nat, d2 = dN b ∧ Q (dN (a + b))) : W X (.BinOp e .Add e2 pos) S Q :=
  w_op (h.mono fun d ⟨a, ed, h2⟩ => h2.mono fun d2 ⟨b, ed2, q⟩ => by
    subst ed ed2
    exact od_add q)
end
section
variable {P : Program} {w : World} {K : PySem.W.Frag} {mg : Str → Option Value} {base : Heap}
/-! ### _law_led_program -/
def spLedP (n : Nat) : Spf := fun ds R => ∃ (p : Pr) (σ : List Nat), ds = [p.enc, tN σ] ∧ p.depth ≤ n ∧ p.size ≤ 1000 ∧ p.full ∧ p.AllS (fun s _ => s ∈ σ) ∧ R (p.ren σ).enc
theorem sc45 : FnScope ["_law_program_here", "_law_signs_here", "_law_part"] ["_law_program_here", "_law_signs_here"] (defScope (top 45)) := ⟨rfl, rfl, rfl, by decide +kernel, rfl, by decide +kernel, by decide +kernel⟩
theorem ok_ledP (T : Tx K mg) : ∀ n : Nat, FnN P w K mg base (n + 1) "_law_led_program" ["_law_program_here", "_law_signs_here"] (spD K (spLedP n)) := by
  intro n
  induction n with
  | zero => exact go T 0 (fun _ h => by omega)
  | succ n ih => exact go T (n + 1) (fun m h => by
      have e : m = n := by omega
      subst e
      exact ih)
where
  go (T : Tx K mg) (n : Nat) (ih : ∀ m, n = m + 1 → FnN P w K mg base (m + 1) "_law_led_program" ["_law_program_here", "_law_signs_here"] (spD K (spLedP m))) : FnN P w K mg base (n + 1) "_law_led_program" ["_law_program_here", "_law_signs_here"] (spD K (spLedP n)) := by
    obtain ⟨f, fd, F, hmg⟩ := T.top (x := "_law_led_program") (j := 45) 34
    refine fnD_of F hmg sc45 (fun _ _ _ _ _ _ us hl => match us, hl with | [_, _], _ => rfl) (fun ds R h => by obtain ⟨r, κ, rfl, _⟩ := h; rfl) fun cdv A outer s H E ds R hr h => ?_
    obtain ⟨p, σ, rfl, hd, hz, hf, hin, q⟩ := h
    cases p with
    | hole => rw [Pr.full] at hf; exact hf.elim
    | node s ps =>
      obtain ⟨m, rfl⟩ : ∃ m, n = m + 1 := ⟨n - 1, by rw [Pr.depth] at hd; omega⟩
      rw [Pr.AllS] at hin
      rw [Pr.full] at hf
      rw [Pr.enc_node]
      have hl : ps.length ≤ 1000 := by
        have h1 := Pr.length_le_sizes ps
        rw [Pr.size] at hz
        omega
      refine wss_one (ws_ret (w_op (w_tup (wa_cons (w_indexN (w_var 1 rfl ⟨σ, rfl, w_ix (w_var 0 rfl (w_int (xd_tup (i := 0) rfl ⟨s, rfl, hin.1, wa_nil ⟨szl (Nat.le_add_left 1 99999), ?_⟩⟩)))⟩))))))
      refine w_tuple T ?_
      refine w_lcN 2 [("_law_part", 2)] sc45.nd (blkOk_by (N := ["_law_program_here", "_law_signs_here", "_law_part"]) (sc := defScope (top 45)) (by decide +kernel)) (idle1 rfl) ?_
      refine wi_tup (w_sl (w_var 0 rfl (w_int ⟨1, rfl, sd_tup ⟨ps.map Pr.enc, by rw [cutD_tail], ?_⟩⟩)))
      refine lcq_map ps Pr.enc (fun p => (p.ren σ).enc) (Nat.lt_of_le_of_lt hl (by decide)) (fun a ha => ⟨_, rfl, fun s H C cl fp => ?_⟩) ⟨_, rfl, od_catT ?_ ?_⟩
      · refine w_call (ih m rfl) hr (Nat.le_refl _) (wa_cons (w_var 2 rfl (wa_cons (w_var 1 rfl (wa_nil ?_)))))
        exact ⟨a, σ, rfl, Pr.depth_part hd ha, Nat.le_trans (Pr.size_mem_node ha) hz, Pr.fulls_mem hf ha, Pr.allSs_mem hin.2 ha, rfl⟩
      · rw [List.length_map, List.length_singleton]
        exact Nat.le_trans (by omega) (by decide : 1001 ≤ sizeLine)
      · rw [Pr.ren, Pr.enc_node, Pr.rens_eq, List.map_map] at q
        exact q
/-! ### _law_size -/
def spSize (n : Nat) : Spf := fun ds R => ∃ (p : Pr), ds = [p.enc] ∧ p.depth ≤ n ∧ p.size ≤ 1000 ∧ R (dN p.size)
theorem sc34 : FnScope ["_law_program_here", "_law_part"] ["_law_program_here"] (defScope (top 34)) := ⟨rfl, rfl, rfl, by decide +kernel, rfl, by decide +kernel, by decide +kernel⟩
theorem ok_size (T : Tx K mg) : ∀ n : Nat, FnN P w K mg base (n + 1) "_law_size" ["_law_program_here"] (spD K (spSize n)) := by
  intro n
  induction n with
  | zero => exact go T 0 (fun _ h => by omega)
  | succ n ih => exact go T (n + 1) (fun m h => by
      have e : m = n := by omega
      subst e
      exact ih)
where
  go (T : Tx K mg) (n : Nat) (ih : ∀ m, n = m + 1 → FnN P w K mg base (m + 1) "_law_size" ["_law_program_here"] (spD K (spSize m))) : FnN P w K mg base (n + 1) "_law_size" ["_law_program_here"] (spD K (spSize n)) := by
    obtain ⟨f, fd, F, hmg⟩ := T.top (x := "_law_size") (j := 34) 23
    refine fnD_of F hmg sc34 (fun _ _ _ _ _ _ us hl => match us, hl with | [_], _ => rfl) (fun ds R h => by obtain ⟨r, rfl, _⟩ := h; rfl) fun cdv A outer s H E ds R hr h => ?_
    obtain ⟨p, rfl, hd, hz, q⟩ := h
    refine wss_one (ws_ret (w_if (wt_cmp (w_var 0 rfl (w_none (od_isnot ⟨_, rfl, ?_⟩))))))
    rw [isN_enc]
    cases p with
    | hole =>
      rw [Pr.size] at q
      exact w_int q
    | node s ps =>
      obtain ⟨m, rfl⟩ : ∃ m, n = m + 1 := ⟨n - 1, by rw [Pr.depth] at hd; omega⟩
      rw [Pr.enc_node]
      have hl : ps.length ≤ 1000 := by
        have h1 := Pr.length_le_sizes ps
        rw [Pr.size] at hz
        omega
      refine w_addN (w_int ⟨1, rfl, w_sumN T ?_⟩)
      refine w_lcN 1 [("_law_part", 1)] sc34.nd (blkOk_by (N := ["_law_program_here", "_law_part"]) (sc := defScope (top 34)) (by decide +kernel)) (idle1 rfl) ?_
      refine wi_tup (w_sl (w_var 0 rfl (w_int ⟨1, rfl, sd_tup ⟨ps.map Pr.enc, by rw [cutD_tail], ?_⟩⟩)))
      refine lcq_map ps Pr.enc (fun p => dN p.size) (Nat.lt_of_le_of_lt hl (by decide)) (fun a ha => ⟨_, rfl, fun s H C cl fp => ?_⟩) ⟨ps.map Pr.size, .inl (by rw [List.map_map]; rfl), ⟨_, rfl, ?_⟩⟩
      · refine w_call (ih m rfl) hr (Nat.le_refl _) (wa_cons (w_var 1 rfl (wa_nil ?_)))
        exact ⟨a, rfl, Pr.depth_part hd ha, Nat.le_trans (Pr.size_mem_node ha) hz, rfl⟩
      · rw [Pr.size, Pr.sizes_eq] at q
        exact q
/-! ### _law_joined -/
def spJoin : Spf := fun ds R => ∃ (xs ys : List (List Nat)), ds = [.list (xs.map tN), .list (ys.map tN)] ∧ xs.length * ys.length ≤ 100000 ∧ xs.length ≤ 100000 ∧ ys.length ≤ 100000 ∧ (∀ x, x ∈ xs → x.length ≤ 1000) ∧ (∀ x, x ∈ ys → x.length ≤ 1000) ∧ R (.list ((xs.flatMap fun x => ys.map fun y => x ++ y).map tN))
theorem sc42 : FnScope ["_law_rows", "_law_others", "_law_found", "_law_row", "_law_other"] ["_law_rows", "_law_others"] (defScope (top 42)) := ⟨rfl, rfl, rfl, by decide +kernel, rfl, by decide +kernel, by decide +kernel⟩
theorem flatMap_len {α β : Type} (xs : List α) (f : α → List β) (n : Nat) (h : ∀ x, (f x).length = n) : (xs.flatMap f).length = xs.length * n := by
  induction xs with
  | nil => simp
  | cons x xs ih => rw [List.flatMap_cons, List.length_append, ih, h, List.length_cons, Nat.succ_mul, Nat.add_comm]
theorem ok_join (T : Tx K mg) : FnN P w K mg base 1 "_law_joined" ["_law_rows", "_law_others"] (spD K spJoin) := by
  obtain ⟨f, fd, F, hmg⟩ := T.top (x := "_law_joined") (j := 42) 31
  refine fnD_of F hmg sc42 (fun _ _ _ _ _ _ us hl => match us, hl with | [_, _], _ => rfl) (fun ds R h => by obtain ⟨r, κ, rfl, _⟩ := h; rfl) fun cdv A outer s H E ds R hr h => ?_
  obtain ⟨xs, ys, rfl, hz, hx, hy, hx2, hy2, q⟩ := h
  refine wss_cons (ws_setV 2 sc42.nd (wv_lst (wa_nil ⟨by decide, fun _ => ?_⟩)))
  refine wss_cons (ws_forN 3 sc42.nd (wi_list (w_var 0 rfl ⟨_, rfl, ?_⟩)))
  refine forQ_map xs tN (fun pre S' => ∃ d, S' = [.dat (.list (xs.map tN)), .dat (.list (ys.map tN)), .own ((pre.flatMap fun x => ys.map fun y => x ++ y).map tN), d, .no] ∧ (d = .no ∨ ∃ dd, d = .dat dd)) ⟨.no, rfl, .inl rfl⟩ (fun pre a post S' e hl hs => ?_) (fun S' hl hs => fun _ => ?_)
  · obtain ⟨d, rfl, _⟩ := hs
    refine ⟨_, rfl, wss_one (ws_extend 2 rfl ?_)⟩
    refine w_lcN 4 [("_law_other", 4)] sc42.nd (blkOk_by (N := ["_law_rows", "_law_others", "_law_found", "_law_row", "_law_other"]) (sc := defScope (top 42)) (by decide +kernel)) (idle1 rfl) ?_
    refine wi_list (w_var 1 rfl ⟨_, rfl, ?_⟩)
    refine lcq_map ys tN (fun y => tN (a ++ y)) (Nat.lt_of_le_of_lt hy (by decide)) (fun y hyy => ⟨_, rfl, fun s H C cl fp => ?_⟩) ⟨_, rfl, ?_, ⟨_, ?_, .inr ⟨tN a, rfl⟩⟩⟩
    · refine w_op (w_var 3 rfl (w_var 4 rfl (od_catT ?_ ?_)))
      · rw [List.length_map, List.length_map]
        have h1 := hx2 a (by rw [e]; simp)
        have h2 := hy2 y hyy
        exact Nat.le_trans (by omega) (by decide : 2000 ≤ sizeLine)
      · rw [← List.map_append]
    · rw [List.length_map, List.length_map, flatMap_len pre _ ys.length (fun x => by rw [List.length_map])]
      have h1 : xs.length = pre.length + (post.length + 1) := by rw [e, List.length_append, List.length_cons]
      rw [h1, Nat.add_mul, Nat.succ_mul] at hz
      omega
    · show _ = [Sv.dat (.list (xs.map tN)), .dat (.list (ys.map tN)), .own (((pre ++ [a]).flatMap fun x => ys.map fun y => x ++ y).map tN), .dat (tN a), .no]
      rw [List.flatMap_append, List.map_append, List.flatMap_singleton, List.map_map]
      rfl
  · obtain ⟨d, rfl, _⟩ := hs
    refine wss_frz 2 rfl (wss_one (ws_ret (w_var 2 rfl ?_)))
    exact q
end
end K3
end

section
set_option autoImplicit true
set_option Elab.async false
set_option linter.all false
set_option maxRecDepth 100000
set_option maxHeartbeats 1000000
namespace K3
open PySem PySem.Spec PyProof.Rows L2
namespace Pr
theorem puts_snoc : ∀ (pre : List Pr) (f : Nat) (a : Pr) (k : Nat) (o : Pr), puts f (pre ++ [a]) k o = puts f pre k o ++ [if f + sizes pre ≤ k ∧ k < f + sizes pre + a.size then put a (k - (f + sizes pre)) o else a]
  | [], f, a, k, o => by
    rw [List.nil_append, puts, puts, puts, sizes]
    rfl
  | p :: ps, f, a, k, o => by
    rw [List.cons_append, puts, puts, puts_snoc ps, sizes, List.cons_append, Nat.add_assoc f p.size]
theorem puts_len (k : Nat) (o : Pr) : ∀ (pre : List Pr) (f : Nat), (puts f pre k o).length = pre.length
  | [], f => by rw [puts]
  | p :: ps, f => by rw [puts, List.length_cons, List.length_cons, puts_len k o ps]
theorem sizes_append : ∀ (xs ys : List Pr), sizes (xs ++ ys) = sizes xs + sizes ys
  | [], ys => by rw [List.nil_append, sizes, Nat.zero_add]
  | p :: ps, ys => by rw [List.cons_append, sizes, sizes, sizes_append ps, Nat.add_assoc]
end Pr
section
variable {P : Program} {w : World} {K : PySem.W.Frag} {mg : Str → Option Value} {base : Heap}
/-! ### _law_put -/
def spPut (n : Nat) : Spf := fun ds R => ∃ (p o : Pr) (k : Nat), ds = [p.enc, dN k, o.enc] ∧ p.depth ≤ n ∧ p.size ≤ 1000 ∧ k < p.size ∧ R (p.put k o).enc
theorem sc35 : FnScope ["_law_program_here", "_law_node", "_law_other", "_law_part", "_law_parts", "_law_first", "_law_size_here"] ["_law_program_here", "_law_node", "_law_other"] (defScope (top 35)) := ⟨rfl, rfl, rfl, by decide +kernel, rfl, by decide +kernel, by decide +kernel⟩
theorem ok_put (T : Tx K mg) : ∀ n : Nat, FnN P w K mg base (n + 2) "_law_put" ["_law_program_here", "_law_node", "_law_other"] (spD K (spPut n)) := by
  intro n
  induction n with
  | zero => exact go T 0 (fun _ h => by omega)
  | succ n ih => exact go T (n + 1) (fun m h => by
      have e : m = n := by omega
      subst e
      exact ih)
where
  go (T : Tx K mg) (n : Nat) (ih : ∀ m, n = m + 1 → FnN P w K mg base (m + 2) "_law_put" ["_law_program_here", "_law_node", "_law_other"] (spD K (spPut m))) : FnN P w K mg base (n + 2) "_law_put" ["_law_program_here", "_law_node", "_law_other"] (spD K (spPut n)) := by
    obtain ⟨f, fd, F, hmg⟩ := T.top (x := "_law_put") (j := 35) 24
    refine fnD_of F hmg sc35 (fun _ _ _ _ _ _ us hl => match us, hl with | [_, _, _], _ => rfl) (fun ds R h => by obtain ⟨_, _, _, rfl, _⟩ := h; rfl) fun cdv A outer s H E ds R hr h => ?_
    obtain ⟨p, o, k, rfl, hd, hz, hk, q⟩ := h
    refine wss_cons (ws_if (wt_cmp (w_var 1 rfl (w_int (od_eq ⟨_, rfl, ite_dec (fun h0 => ?_) fun h0 => ?_⟩)))))
    · have e : k = 0 := by omega
      subst e
      refine wss_one (ws_ret (w_var 2 rfl ?_))
      cases p with
      | hole => rw [Pr.put, if_pos rfl] at q; exact q
      | node s ps => rw [Pr.put, if_pos rfl] at q; exact q
    · have hk0 : k ≠ 0 := by omega
      refine wss_nil fun _ => ?_
      cases p with
      | hole => rw [Pr.size] at hk; omega
      | node sg ps =>
        obtain ⟨m, rfl⟩ : ∃ m, n = m + 1 := ⟨n - 1, by rw [Pr.depth] at hd; omega⟩
        rw [Pr.enc_node]
        have hl : ps.length ≤ 1000 := by
          have h1 := Pr.length_le_sizes ps
          rw [Pr.size] at hz
          omega
        refine wss_cons (ws_par2 4 5 sc35.nd (wva_cons (wv_lst (wa_nil ⟨by decide, wva_cons (wv_dat (w_int (wva_nil ⟨rfl, fun _ => ?_⟩)))⟩))))
        refine wss_cons (ws_forN 3 sc35.nd (wi_tup (w_sl (w_var 0 rfl (w_int ⟨1, rfl, sd_tup ⟨ps.map Pr.enc, by rw [cutD_tail], ?_⟩⟩)))))
        refine forQ_map ps Pr.enc (fun pre S' => ∃ d d', S' = [.dat (.tuple (dN sg :: ps.map Pr.enc)), .dat (dN k), .dat o.enc, d, .own ((Pr.puts 1 pre k o).map Pr.enc), .dat (dN (1 + Pr.sizes pre)), d']) ⟨.no, .no, rfl⟩ (fun pre a post S' e hl' hs => ?_) (fun S' hl' hs => fun _ => ?_)
        · obtain ⟨d, d', rfl⟩ := hs
          have ha : a ∈ ps := by rw [e]; simp
          refine ⟨_, rfl, wss_cons (ws_set 6 sc35.nd ?_)⟩
          refine w_call (ok_size T (m + 1)) hr (Nat.le_refl _) (wa_cons (w_var 3 rfl (wa_nil ⟨a, rfl, Nat.le_succ_of_le (Pr.depth_part hd ha), Nat.le_trans (Pr.size_mem_node ha) hz, ?_⟩)))
          refine fun _ => wss_cons (ws_append 4 rfl ?_ (W.mono (Q := fun d => d = (if 1 + Pr.sizes pre ≤ k ∧ k < 1 + Pr.sizes pre + a.size then Pr.put a (k - (1 + Pr.sizes pre)) o else a).enc) ?_ fun d ed => ?_))
          · rw [List.length_map, Pr.puts_len]
            have h1 : ps.length = pre.length + (post.length + 1) := by rw [e, List.length_append, List.length_cons]
            omega
          · refine w_if (wt_chain (w_var 5 rfl (w_var 1 rfl (od_le ⟨_, rfl, ite_dec (fun c1 => ?_) fun c1 => ?_⟩))))
            · refine w_addN (w_var 5 rfl ⟨_, rfl, w_var 6 rfl ⟨_, rfl, od_lt ⟨_, rfl, ite_dec (fun c2 => ?_) fun c2 => ?_⟩⟩⟩)
              · refine w_call (ih m rfl) hr (Nat.le_refl _) (wa_cons (w_var 3 rfl (wa_cons (w_op (w_var 1 rfl (w_var 5 rfl (od_sub (wa_cons (w_var 2 rfl (wa_nil ⟨a, o, k - (1 + Pr.sizes pre), ?_, Pr.depth_part hd ha, Nat.le_trans (Pr.size_mem_node ha) hz, by omega, ?_⟩))))))))))
                · have e1 : ((k : Int) - ((1 + Pr.sizes pre : Nat) : Int)) = ((k - (1 + Pr.sizes pre) : Nat) : Int) := by omega
                  rw [e1]
                · show _ = _
                  rw [if_pos ⟨by omega, by omega⟩]
              · refine w_var 3 rfl ?_
                rw [if_neg (by omega)]
            · refine w_var 3 rfl ?_
              rw [if_neg (by omega)]
          · subst ed
            refine fun _ => wss_one (ws_aug 5 ip_add sc35.nd (n := ((1 + Pr.sizes pre : Nat) : Int)) rfl (w_var 6 rfl ⟨_, rfl, .dat a.enc, .dat (dN a.size), ?_⟩))
            have e1 : (((1 + Pr.sizes pre : Nat) : Int) + ((a.size : Nat) : Int)) = ((1 + Pr.sizes (pre ++ [a]) : Nat) : Int) := by
              rw [Pr.sizes_append, Pr.sizes, Pr.sizes]
              omega
            rw [e1, Pr.puts_snoc, List.map_append]
            rfl
        · obtain ⟨d, d', rfl⟩ := hs
          refine wss_frz 4 rfl (wss_one (ws_ret (w_op (w_tup (wa_cons (w_ix (w_var 0 rfl (w_int (xd_tup (i := 0) rfl (wa_nil ⟨szl (Nat.le_add_left 1 99999), w_tuple T (w_var 4 rfl ⟨_, rfl, od_catT ?_ ?_⟩)⟩))))))))))
          · rw [List.length_map, List.length_singleton]
            rw [Pr.puts_len]
            exact szl (by omega)
          · rw [Pr.put, if_neg hk0, Pr.enc_node] at q
            exact q
end
end K3
end

section
set_option autoImplicit true
set_option Elab.async false
set_option linter.all false
set_option maxRecDepth 100000
set_option maxHeartbeats 1000000
namespace K3
open PySem PySem.Spec PyProof.Rows L2
def renT (κ σ : List Nat) (t : Tb) : Tb := ⟨t.many, σ.map fun s => t.signs.getD s 0, srt En.enc (t.ents.map (renE κ σ))⟩
structure TOk (t : Tb) (κ σ : List Nat) : Prop where
  n : t.ents.length ≤ 1000
  kl : κ.length ≤ 100
  sl : σ.length ≤ 100
  km : ∀ k, k < κ.length → k ∈ κ
  sm : ∀ k, k < σ.length → k ∈ σ
  sb : ∀ s, s ∈ σ → s < t.signs.length
  e : ∀ e, e ∈ t.ents → e.s < σ.length ∧ (∀ k, k ∈ e.ps → k < κ.length) ∧ e.k < κ.length ∧ e.ps.length ≤ 10
theorem alike_tN (xs ys : List Nat) : PySem.W.alike (tN xs) (tN ys) = true := by
  show PySem.W.alikeAll (xs.map dN) (ys.map dN) = true
  rw [dN_map, dN_map]
  exact PySem.W.alike_ints _ _
theorem alike_en (x y : En) : PySem.W.alike x.enc y.enc = true := by
  show (PySem.W.alike (dN x.s) (dN y.s) && (PySem.W.alike (tN x.ps) (tN y.ps) && (PySem.W.alike (dN x.k) (dN y.k) && true))) = true
  rw [alike_tN]
  rfl
theorem nodict_ints : ∀ ns : List Nat, PyData.hasDictAll (ns.map dN) = false
  | [] => rfl
  | n :: ns => by
    show (PyData.hasDict (dN n) || PyData.hasDictAll (ns.map dN)) = false
    rw [nodict_ints ns]
    rfl
theorem depth_ints : ∀ ns : List Nat, PyData.depthAll (ns.map dN) = 0 := fun ns => by
  rw [dN_map]
  exact PySem.W.depth_ints _
theorem nodict_tN (ns : List Nat) : (tN ns).hasDict = false := nodict_ints ns
theorem nodict_en (e : En) : e.enc.hasDict = false := by
  show (PyData.hasDict (dN e.s) || (PyData.hasDictAll (e.ps.map dN) || (PyData.hasDict (dN e.k) || false))) = false
  rw [nodict_ints]
  rfl
theorem depth_tN (ns : List Nat) : (tN ns).depth = 1 := by
  rw [tN, PyData.depth, depth_ints]
theorem depth_en (e : En) : e.enc.depth ≤ 100 := by
  unfold En.enc
  rw [PyData.depth, PyData.depthAll, PyData.depthAll, PyData.depthAll, PyData.depthAll, depth_tN]
  exact (by decide : max 0 (max 1 (max 0 0)) + 1 ≤ 100)
theorem getD_of {α : Type} {xs : List α} {i : Nat} (h : i < xs.length) (d : α) : xs[i]? = some (xs.getD i d) := by
  rw [List.getD_eq_getElem?_getD, List.getElem?_eq_getElem h]
  rfl
section
variable {P : Program} {w : World} {K : PySem.W.Frag} {mg : Str → Option Value} {base : Heap}
/-! ### _law_led_table -/
def spLedT : Spf := fun ds R => ∃ (t : Tb) (κ σ : List Nat), ds = [t.enc, tN κ, tN σ] ∧ TOk t κ σ ∧ R (renT κ σ t).enc
theorem sc44 : FnScope ["_law_table_here", "_law_kinds", "_law_signs_here", "_law_many", "_law_its", "_law_entries", "_law_at", "_law_to", "_law_found", "_law_sign", "_law_parts", "_law_kind", "_law_part"] ["_law_table_here", "_law_kinds", "_law_signs_here"] (defScope (top 44)) := ⟨rfl, rfl, rfl, by decide +kernel, rfl, by decide +kernel, by decide +kernel⟩
theorem ok_ledT (T : Tx K mg) : FnN P w K mg base 2 "_law_led_table" ["_law_table_here", "_law_kinds", "_law_signs_here"] (spD K spLedT) := by
  obtain ⟨f, fd, F, hmg⟩ := T.top (x := "_law_led_table") (j := 44) 33
  refine fnD_of F hmg sc44 (fun _ _ _ _ _ _ us hl => match us, hl with | [_, _, _], _ => rfl) (fun ds R h => by obtain ⟨_, _, _, rfl, _⟩ := h; rfl) fun cdv A outer s H E ds R hr h => ?_
  obtain ⟨t, κ, σ, rfl, ok, q⟩ := h
  refine wss_cons (ws_unp3 3 4 5 sc44.nd (w_var 0 rfl ⟨dN t.many, tN t.signs, encE t.ents, rfl, fun _ => ?_⟩))
  refine wss_cons (ws_tup3 6 7 8 sc44.nd (wva_cons (wv_dat (w_call (ok_back T) hr (Nat.le_refl _) (wa_cons (w_var 1 rfl (wa_nil ⟨κ, rfl, ok.kl, ok.km, wva_cons (wv_dat (w_call (ok_back T) hr (Nat.le_refl _) (wa_cons (w_var 2 rfl (wa_nil ⟨σ, rfl, ok.sl, ok.sm, wva_cons (wv_lst (wa_nil ⟨szl (Nat.zero_le _), wva_nil ⟨rfl, fun _ => ?_⟩⟩))⟩)))))⟩)))))))
  refine wss_cons (ws_forT3 9 10 11 sc44.nd (wi_tup (w_var 5 rfl ⟨_, rfl, ?_⟩) (p := true)))
  have hbk : ∀ (ns : List Nat) (k : Nat), k < ns.length → (((List.range ns.length).map fun k => ns.idxOf k).map dN)[k]? = some (dN (ns.idxOf k)) := fun ns k hk => by
    rw [List.getElem?_map, List.getElem?_map, List.getElem?_range hk]
    rfl
  refine forQ_map t.ents En.enc (fun pre S' => ∃ a b c, Fr a ∧ S' = [.dat t.enc, .dat (tN κ), .dat (tN σ), .dat (dN t.many), .dat (tN t.signs), .dat (encE t.ents), .dat (tN ((List.range κ.length).map fun k => κ.idxOf k)), .dat (tN ((List.range σ.length).map fun k => σ.idxOf k)), .own ((pre.map (renE κ σ)).map En.enc), a, b, c, .no]) ⟨.no, .no, .no, .no, rfl⟩ (fun pre e post S' ee hl hs => ?_) (fun S' hl hs => fun _ => ?_)
  · obtain ⟨a, b, c, ha, rfl⟩ := hs
    have he := ok.e e (by rw [ee]; simp)
    refine ⟨_, ⟨[dN e.s, tN e.ps, dN e.k], rfl, rfl, rfl⟩, wss_one (ws_append 8 rfl ?_ ?_)⟩
    · rw [List.length_map, List.length_map]
      have h1 : t.ents.length = pre.length + (post.length + 1) := by rw [ee, List.length_append, List.length_cons]
      have := ok.n
      omega
    · refine w_tup (wa_cons (w_ix (w_var 7 rfl (w_var 9 rfl (xd_tup (hbk σ e.s he.1) (wa_cons (w_tuple T ?_)))))))
      refine w_lcN 12 [("_law_part", 12)] sc44.nd (blkOk_by (N := ["_law_table_here", "_law_kinds", "_law_signs_here", "_law_many", "_law_its", "_law_entries", "_law_at", "_law_to", "_law_found", "_law_sign", "_law_parts", "_law_kind", "_law_part"]) (sc := defScope (top 44)) (by decide +kernel)) (idle1 rfl) ?_
      refine wi_tup (w_var 10 rfl ⟨_, rfl, ?_⟩)
      refine lcq_map e.ps dN (fun k => dN (κ.idxOf k)) (slt (by omega)) (fun k hk => ⟨_, rfl, fun s H C cl fp => ?_⟩) ⟨_, rfl, ?_⟩
      · exact w_ix (w_var 6 rfl (w_var 12 rfl (xd_tup (hbk κ k (he.2.1 k hk)) rfl)))
      · refine wa_cons (w_ix (w_var 6 rfl (w_var 11 rfl (xd_tup (hbk κ e.k he.2.2.1) (wa_nil ⟨szl (Nat.le_of_ble_eq_true rfl), ?_⟩)))))
        refine ⟨.dat (dN e.s), .dat (tN e.ps), .dat (dN e.k), .dat, ?_⟩
        rw [List.map_append, List.map_append]
        have e1 : (renE κ σ e).enc = .tuple [dN (σ.idxOf e.s), .tuple (e.ps.map fun k => dN (κ.idxOf k)), dN (κ.idxOf e.k)] := by
          unfold En.enc renE
          rw [tN, List.map_map]
          rfl
        show _ = [Sv.dat t.enc, .dat (tN κ), .dat (tN σ), .dat (dN t.many), .dat (tN t.signs), .dat (encE t.ents), .dat (tN ((List.range κ.length).map fun k => κ.idxOf k)), .dat (tN ((List.range σ.length).map fun k => σ.idxOf k)), .own ((pre.map (renE κ σ)).map En.enc ++ [(renE κ σ e).enc]), .dat (dN e.s), .dat (tN e.ps), .dat (dN e.k), .no]
        rw [e1]
        rfl
  · obtain ⟨a, b, c, ha, rfl⟩ := hs
    refine wss_frz 8 rfl (wss_one (ws_ret (w_tup (wa_cons (w_var 3 rfl (wa_cons (w_tuple T ?_)))))))
    refine w_lcN 9 [("_law_sign", 9)] sc44.nd (blkOk_by (N := ["_law_table_here", "_law_kinds", "_law_signs_here", "_law_many", "_law_its", "_law_entries", "_law_at", "_law_to", "_law_found", "_law_sign", "_law_parts", "_law_kind", "_law_part"]) (sc := defScope (top 44)) (by decide +kernel)) (idle1F rfl ha) ?_
    refine wi_tup (w_var 2 rfl ⟨_, rfl, ?_⟩)
    refine lcq_map σ dN (fun k => dN (t.signs.getD k 0)) (slt (Nat.lt_of_le_of_lt ok.sl (by decide))) (fun k hk => ⟨_, rfl, fun s H C cl fp => ?_⟩) ⟨_, rfl, ?_⟩
    · refine w_ix (w_var 4 rfl (w_var 9 rfl (xd_tup (d := dN (t.signs.getD k 0)) ?_ rfl)))
      rw [List.getElem?_map, getD_of (ok.sb k hk) 0]
      rfl
    · refine wa_cons (w_tuple T (w_sorted T hr En.enc alike_en (.inl fun x => ⟨_, _, rfl⟩) (w_var 8 rfl ⟨t.ents.map (renE κ σ), rfl, fun x _ => ⟨nodict_en x, depth_en x⟩, ?_, ⟨_, rfl, wa_nil ⟨szl (Nat.le_of_ble_eq_true rfl), ?_⟩⟩⟩)))
      · rw [List.length_map]
        exact Nat.le_trans ok.n (by decide)
      · have e1 : (renT κ σ t).enc = .tuple [dN t.many, .tuple (σ.map fun k => dN (t.signs.getD k 0)), .tuple ((srt En.enc (t.ents.map (renE κ σ))).map En.enc)] := by
          unfold Tb.enc renT encE
          rw [tN, List.map_map]
          rfl
        rw [e1] at q
        exact q
end
end K3
end

section
set_option autoImplicit true
set_option Elab.async false
set_option linter.all false
set_option maxRecDepth 100000
set_option maxHeartbeats 1000000
namespace K3
open PySem PySem.Spec PyProof.Rows L2
section
variable {P : Program} {w : World} {K : PySem.W.Frag} {mg : Str → Option Value} {base : Heap}
/-! ### renumbered -/
theorem sc4 : FnScope ["table", "kinds", "signs", "moved", "many", "parts", "entries", "sign", "places", "kind", "place"] ["table", "kinds", "signs"] (defScope (top 4)) := ⟨rfl, rfl, rfl, by decide +kernel, rfl, by decide +kernel, by decide +kernel⟩
theorem ok_renT (T : Tx K mg) : FnN P w K mg base 1 "renumbered" ["table", "kinds", "signs"] (spD K spLedT) := by
  obtain ⟨f, fd, F, hmg⟩ := T.top (x := "renumbered") (j := 4) 1
  refine fnD_of F hmg sc4 (fun _ _ _ _ _ _ us hl => match us, hl with | [_, _, _], _ => rfl) (fun ds R h => by obtain ⟨_, _, _, rfl, _⟩ := h; rfl) fun cdv A outer s H E ds R hr h => ?_
  obtain ⟨t, κ, σ, rfl, ok, q⟩ := h
  refine wss_cons (ws_unp3 4 5 6 sc4.nd (w_var 0 rfl ⟨dN t.many, tN t.signs, encE t.ents, rfl, fun _ => ?_⟩))
  refine wss_cons (ws_setV 3 sc4.nd (wv_lst (wa_nil ⟨szl (Nat.zero_le _), fun _ => ?_⟩)))
  refine wss_cons (ws_forT3 7 8 9 sc4.nd (wi_tup (w_var 6 rfl ⟨_, rfl, ?_⟩) (p := true)))
  refine forQ_map t.ents En.enc (fun pre S' => ∃ a b c, Fr a ∧ S' = [.dat t.enc, .dat (tN κ), .dat (tN σ), .own ((pre.map (renE κ σ)).map En.enc), .dat (dN t.many), .dat (tN t.signs), .dat (encE t.ents), a, b, c, .no]) ⟨.no, .no, .no, .no, rfl⟩ (fun pre e post S' ee hl hs => ?_) (fun S' hl hs => fun _ => ?_)
  · obtain ⟨a, b, c, ha, rfl⟩ := hs
    have he := ok.e e (by rw [ee]; simp)
    refine ⟨_, ⟨[dN e.s, tN e.ps, dN e.k], rfl, rfl, rfl⟩, wss_one (ws_append 3 rfl ?_ ?_)⟩
    · rw [List.length_map, List.length_map]
      have h1 : t.ents.length = pre.length + (post.length + 1) := by rw [ee, List.length_append, List.length_cons]
      have := ok.n
      omega
    · refine w_tup (wa_cons (w_indexN (w_var 2 rfl ⟨σ, rfl, w_var 7 rfl ⟨e.s, rfl, ok.sm _ he.1, wa_cons (w_tuple T ?_)⟩⟩)))
      refine w_lcN 10 [("place", 10)] sc4.nd (blkOk_by (N := ["table", "kinds", "signs", "moved", "many", "parts", "entries", "sign", "places", "kind", "place"]) (sc := defScope (top 4)) (by decide +kernel)) (idle1 rfl) ?_
      refine wi_tup (w_var 8 rfl ⟨_, rfl, ?_⟩)
      refine lcq_map e.ps dN (fun k => dN (κ.idxOf k)) (slt (by omega)) (fun k hk => ⟨_, rfl, fun s H C cl fp => ?_⟩) ⟨_, rfl, ?_⟩
      · exact w_indexN (w_var 1 rfl ⟨κ, rfl, w_var 10 rfl ⟨k, rfl, ok.km _ (he.2.1 k hk), rfl⟩⟩)
      · refine wa_cons (w_indexN (w_var 1 rfl ⟨κ, rfl, w_var 9 rfl ⟨e.k, rfl, ok.km _ he.2.2.1, wa_nil ⟨szl (Nat.le_of_ble_eq_true rfl), ?_⟩⟩⟩))
        refine ⟨.dat (dN e.s), .dat (tN e.ps), .dat (dN e.k), .dat, ?_⟩
        rw [List.map_append, List.map_append]
        have e1 : (renE κ σ e).enc = .tuple [dN (σ.idxOf e.s), .tuple (e.ps.map fun k => dN (κ.idxOf k)), dN (κ.idxOf e.k)] := by
          unfold En.enc renE
          rw [tN, List.map_map]
          rfl
        show _ = [Sv.dat t.enc, .dat (tN κ), .dat (tN σ), .own ((pre.map (renE κ σ)).map En.enc ++ [(renE κ σ e).enc]), .dat (dN t.many), .dat (tN t.signs), .dat (encE t.ents), .dat (dN e.s), .dat (tN e.ps), .dat (dN e.k), .no]
        rw [e1]
        rfl
  · obtain ⟨a, b, c, ha, rfl⟩ := hs
    refine wss_frz 3 rfl (wss_one (ws_ret (w_tup (wa_cons (w_var 4 rfl (wa_cons (w_tuple T ?_)))))))
    refine w_lcN 7 [("sign", 7)] sc4.nd (blkOk_by (N := ["table", "kinds", "signs", "moved", "many", "parts", "entries", "sign", "places", "kind", "place"]) (sc := defScope (top 4)) (by decide +kernel)) (idle1F rfl ha) ?_
    refine wi_tup (w_var 2 rfl ⟨_, rfl, ?_⟩)
    refine lcq_map σ dN (fun k => dN (t.signs.getD k 0)) (slt (Nat.lt_of_le_of_lt ok.sl (by decide))) (fun k hk => ⟨_, rfl, fun s H C cl fp => ?_⟩) ⟨_, rfl, ?_⟩
    · refine w_ix (w_var 5 rfl (w_var 7 rfl (xd_tup (d := dN (t.signs.getD k 0)) ?_ rfl)))
      rw [List.getElem?_map, getD_of (ok.sb k hk) 0]
      rfl
    · refine wa_cons (w_tuple T (w_sorted T hr En.enc alike_en (.inl fun x => ⟨_, _, rfl⟩) (w_var 3 rfl ⟨t.ents.map (renE κ σ), rfl, fun x _ => ⟨nodict_en x, depth_en x⟩, ?_, ⟨_, rfl, wa_nil ⟨szl (Nat.le_of_ble_eq_true rfl), ?_⟩⟩⟩)))
      · rw [List.length_map]
        exact Nat.le_trans ok.n (by decide)
      · have e1 : (renT κ σ t).enc = .tuple [dN t.many, .tuple (σ.map fun k => dN (t.signs.getD k 0)), .tuple ((srt En.enc (t.ents.map (renE κ σ))).map En.enc)] := by
          unfold Tb.enc renT encE
          rw [tN, List.map_map]
          rfl
        rw [e1] at q
        exact q
end
end K3
end

section
set_option autoImplicit true
set_option Elab.async false
set_option linter.all false
set_option maxRecDepth 100000
set_option maxHeartbeats 1000000
namespace K3
open PySem PySem.Spec PyProof.Rows L2
theorem cutD_mem {xs : List D} {lo hi : Option Int} {d : D} (h : d ∈ cutD xs lo hi) : d ∈ xs := by
  unfold cutD at h
  exact List.mem_of_mem_drop (List.mem_of_mem_take h)
theorem cell_first {ns : List Int} (hn : ∀ n, n ∈ ns → 0 ≤ n) (lo hi : Option Int) : ∃ c : Int, 0 ≤ c ∧ (cutD (ns.map .int) lo hi ++ [.int 0])[0]? = some (.int c) := by
  cases e : cutD (ns.map .int) lo hi with
  | nil => exact ⟨0, by decide, rfl⟩
  | cons d ds =>
    have h : d ∈ ns.map PyData.int := cutD_mem (by rw [e]; exact List.mem_cons_self)
    obtain ⟨n, hm, rfl⟩ := List.mem_map.mp h
    exact ⟨n, hn n hm, rfl⟩
theorem cutD_len (xs : List D) (lo hi : Option Int) : (cutD xs lo hi).length ≤ xs.length := by
  unfold cutD
  rw [List.length_take, List.length_drop]
  omega
section
variable {P : Program} {w : World} {K : PySem.W.Frag} {mg : Str → Option Value} {base : Heap}
/-! ### _law_take -/
def spTake : Spf := fun ds R => ∃ m : Nat, ds = [dN m] ∧ 0 < m ∧ m ≤ 1000000 ∧ ∀ v : Nat, v < m → R (dN v)
theorem sc21 : FnScope ["_law_bag_here", "_law_many", "_law_begin", "_law_second", "_law_cell", "_law_stirred", "_law_value"] ["_law_bag_here", "_law_many"] (defScope (top 21)) := ⟨rfl, rfl, rfl, by decide +kernel, rfl, by decide +kernel, by decide +kernel⟩
theorem modN {i : Int} {m : Nat} (hm : 0 < m) : ∃ v : Nat, v < m ∧ i % (m : Int) = (v : Int) := by
  have h1 := Int.emod_nonneg i (show (m : Int) ≠ 0 by omega)
  have h2 := Int.emod_lt_of_pos i (show (0 : Int) < m by omega)
  exact ⟨(i % (m : Int)).toNat, by omega, by omega⟩
theorem ok_take (T : Tx K mg) : FnN P w K mg base 1 "_law_take" ["_law_bag_here", "_law_many"] (spB K spTake) := by
  obtain ⟨f, fd, F, hmg⟩ := T.top (x := "_law_take") (j := 21) 10
  refine fnB_of F hmg sc21 (fun _ _ _ _ _ _ us hl => match us, hl with | [_, _], _ => rfl) (fun ds R h => by obtain ⟨_, rfl, _⟩ := h; rfl) fun cdv A outer s H E b ds R hr h => ?_
  obtain ⟨m, rfl, hm, hm2, q⟩ := h
  refine wss_bag 0 rfl fun a0 a1 a2 ns hv => ?_
  have rest : ∀ (a0 a1 a2 : Int) (x y : Sv K), BagV a0 a1 a2 ns → ∀ D0 : De K, D0 = (⟨fun S' => R .none ∧ ∃ t, S'[0]? = some t ∧ BagLike b t, fun d S' => R d ∧ ∃ t, S'[0]? = some t ∧ BagLike b t, fun _ => False, fun _ => False⟩ : De K) →
      WSs (Bx P w K mg base ["_law_bag_here", "_law_many", "_law_begin", "_law_second", "_law_cell", "_law_stirred", "_law_value"] "_law_take" (defScope (top 21)) f cdv A outer s H E) ((defBody (top 21)).drop 1) [.ownA b (bagL a0 a1 a2 ns), .dat (dN m), .no, .no, x, y, .no] D0 := by
    intro a0 a1 a2 x y hv D0 hD
    subst hD
    obtain ⟨v1, v2, v3, v4, v5, v6⟩ := hv
    refine wss_cons (ws_if (wt_cmp (w_ixO 0 OwnL.ownA rfl (w_int ⟨0, _, rfl, rfl, w_int (od_gt ⟨_, rfl, ite_dec (fun h1 => ?_) fun h1 => wss_nil fun _ => ?_⟩)⟩))))
    · refine wss_cons (ws_set 6 sc21.nd (w_op (w_intc T (w_ixO 0 OwnL.ownA rfl (w_int ⟨0, _, rfl, rfl, _, rfl, w_var 1 rfl (od_mod (by omega) fun _ => ?_)⟩)))))
      refine wss_cons (ws_itemO 0 OwnL.ownA rfl (w_op (w_intc T (w_ixO 0 OwnL.ownA rfl (w_int ⟨0, _, rfl, rfl, _, rfl, w_var 1 rfl (od_div ⟨by omega, by omega⟩ (w_int ⟨0, rfl, (by decide : 0 < 4), fun _ => ?_⟩))⟩)))))
      refine wss_one (ws_ret (w_var 6 rfl ⟨?_, .ownA b (bagL (a0 / (m : Int)) a1 a2 ns), rfl, BagLike.ownA ⟨?_, v2, v3, v4, v5, v6⟩⟩))
      · obtain ⟨v, hv, e⟩ := modN (i := a0) hm
        rw [e]
        exact q v hv
      · exact Int.ediv_nonneg v1 (by omega)
    · refine wss_cons (ws_set 2 sc21.nd (w_op (w_intc T (w_op (w_op (w_ixO 0 OwnL.ownA rfl (w_int ⟨1, _, rfl, rfl, w_int (od_add (w_int (od_mul (.inr (by decide)) ⟨_, rfl, w_int (od_mod (by decide) fun _ => ?_)⟩)))⟩)))))))
      have b1 := Int.emod_nonneg ((a1 + 1) * 39373) (show (1000000007 : Int) ≠ 0 by decide)
      have b2 := Int.emod_lt_of_pos ((a1 + 1) * 39373) (show (0 : Int) < 1000000007 by decide)
      refine wss_cons (ws_set 3 sc21.nd (w_op (w_intc T (w_op (w_op (w_intc T (w_op (w_var 2 rfl (w_var 2 rfl (od_mul (.inl ⟨by omega, by omega⟩) ⟨_, rfl, w_int (od_mod (by decide) (w_int (od_mul (.inr (by decide)) ⟨_, rfl, w_int (od_mod (by decide) fun _ => ?_)⟩)))⟩))))))))))
      refine wss_one (ws_ret (w_op (w_intc T (w_op (w_var 3 rfl (w_int (od_div ⟨by decide, by decide⟩ ⟨_, rfl, w_var 1 rfl (od_mod (by omega) ⟨?_, .ownA b (bagL a0 a1 a2 ns), rfl, BagLike.ownA ⟨v1, v2, v3, v4, v5, v6⟩⟩)⟩)))))))
      obtain ⟨v, hv, e⟩ := modN (i := ((a1 + 1) * 39373 % 1000000007 * ((a1 + 1) * 39373 % 1000000007) % 998244353 * 30011 % 998244353 / 7)) hm
      rw [e]
      exact q v hv
  refine wss_cons (ws_if (wt_cmp (w_ixO 0 OwnL.ownA rfl (w_int ⟨0, _, rfl, rfl, w_int (od_eq ⟨_, rfl, ite_dec (fun h1 => ?_) fun h1 => wss_nil fun _ => ?_⟩)⟩))))
  · obtain ⟨v1, v2, v3, v4, v5, v6⟩ := hv
    obtain ⟨c, hc, ec⟩ := cell_first v6 (some a2) none
    refine wss_cons (ws_set 4 sc21.nd (w_ix (w_op (w_sl (w_ixO 0 OwnL.ownA rfl (w_int ⟨3, _, rfl, rfl, (w_ixO 0 OwnL.ownA rfl (w_int ⟨2, _, rfl, rfl, _, rfl, ?_⟩))⟩))))))
    refine sd_lst (w_lst (wa_cons (w_int (wa_nil ⟨szl (Nat.le_of_ble_eq_true rfl), od_catL ?_ (w_int (xd_lst (i := 0) ec fun _ => ?_))⟩))))
    · have := cutD_len (ns.map .int) (some a2) none
      rw [List.length_map] at this
      rw [List.length_singleton]
      exact szl (by omega)
    · refine wss_cons (ws_augO 0 ip_add OwnL.ownA rfl (w_int ⟨2, a2, rfl, rfl, w_int ⟨1, rfl, fun _ => ?_⟩⟩))
      have tail : ∀ (a0 : Int) (x y : Sv K), 0 ≤ a0 → ∀ D0 : De K, (∀ a1' : Int, 0 ≤ a1' → a1' < 2147483647 → ∀ y, D0.nx [.ownA b (bagL a0 a1' (a2 + 1) ns), .dat (dN m), .no, .no, .dat (.int c), y, .no]) →
        WSs (Bx P w K mg base ["_law_bag_here", "_law_many", "_law_begin", "_law_second", "_law_cell", "_law_stirred", "_law_value"] "_law_take" (defScope (top 21)) f cdv A outer s H E) ((match (defBody (top 21)).getD 0 (.Pass ⟨0, 0, 0, 0⟩) with | .If _ b _ _ => b | _ => []).drop 3) [.ownA b (bagL a0 a1 (a2 + 1) ns), .dat (dN m), .no, .no, .dat (.int c), .no, .no] D0 := by
        intro a0 x y h0 D0 hD
        refine wss_cons (ws_set 5 sc21.nd (w_op (w_op (w_op (w_ixO 0 OwnL.ownA rfl (w_int ⟨1, _, rfl, rfl, w_int (od_mul (.inr (by decide)) (w_op (w_intc T (w_var 4 rfl ⟨_, rfl, w_int (od_mod (by decide) (od_add (w_op (w_int (w_ixO 0 OwnL.ownA rfl (w_int ⟨2, _, rfl, rfl, od_mul (.inl (by decide)) (od_add fun _ => ?_)⟩))))))⟩))))⟩))))))
        refine wss_one (ws_itemO 0 OwnL.ownA rfl (w_op (w_intc T (w_var 5 rfl ⟨_, rfl, w_int (od_mod (by decide) (w_int ⟨1, rfl, (by decide : 1 < 4), ?_⟩))⟩))))
        exact hD _ (Int.emod_nonneg _ (by decide)) (Int.emod_lt_of_pos _ (by decide)) _
      refine wss_cons (ws_if (wt_cmp (w_var 4 rfl (w_op (w_int (w_int (od_pow ⟨by decide, by decide, by decide⟩ (od_ge ⟨_, rfl, ite_dec (fun h2 => ?_) fun h2 => wss_nil fun _ => ?_⟩))))))))
      · refine wss_one (ws_itemO 0 OwnL.ownA rfl (w_var 4 rfl (w_int ⟨0, rfl, (by decide : 0 < 4), fun _ => ?_⟩)))
        refine tail c .no .no hc _ fun a1' g1 g2 y => fun _ => ?_
        exact rest c a1' (a2 + 1) _ _ ⟨hc, g1, g2, by omega, v5, v6⟩ _ rfl
      · refine tail a0 .no .no v1 _ fun a1' g1 g2 y => fun _ => ?_
        exact rest a0 a1' (a2 + 1) _ _ ⟨v1, g1, g2, by omega, v5, v6⟩ _ rfl
  · exact rest a0 a1 a2 .no .no hv _ rfl
end
end K3
end

section
set_option autoImplicit true
set_option Elab.async false
set_option linter.all false
set_option maxRecDepth 100000
set_option maxHeartbeats 1000000
namespace K3
open PySem PySem.Spec PyProof.Rows L2
section
variable {P : Program} {w : World} {K : PySem.W.Frag} {mg : Str → Option Value} {base : Heap}
/-! ### _law_bag -/
theorem sc20 : FnScope ["_law_script", "_law_cell"] ["_law_script"] (defScope (top 20)) := ⟨rfl, rfl, rfl, by decide +kernel, rfl, by decide +kernel, by decide +kernel⟩
theorem ok_bag (T : Tx K mg) : FnN P w K mg base 1 "_law_bag" ["_law_script"] (spM K) := by
  obtain ⟨f, fd, F, hmg⟩ := T.top (x := "_law_bag") (j := 20) 9
  refine fnM_of F hmg sc20 rfl (fun _ _ _ _ _ _ us hl => match us, hl with | [_], _ => rfl) rfl fun cdv A outer s H E ns hr => ?_
  refine wv_lst (wa_cons (w_int (wa_cons (w_int (wa_cons (w_int (wa_cons ?_)))))))
  refine w_lcN 1 [("_law_cell", 1)] sc20.nd (blkOk_by (N := ["_law_script", "_law_cell"]) (sc := defScope (top 20)) (by decide +kernel)) (idle1 rfl) ?_
  refine wi_list (w_slSq 0 rfl (w_int ⟨63, rfl, _, rfl, ?_⟩))
  have hl : (ns.take 63).length ≤ 63 := by rw [List.length_take]; omega
  refine lcq_map (ns.take 63) PyData.int (fun i => .int (if i < 0 then -i else i)) (slt (by omega)) (fun i hi => ⟨_, rfl, fun s H C cl fp => w_abs T (w_var 1 rfl ⟨i, rfl, rfl⟩)⟩) (wa_nil ⟨szl (Nat.le_of_ble_eq_true rfl), 0, 1234567891, 0, (ns.take 63).map (fun i => if i < 0 then -i else i), ⟨by decide, by decide, by decide, by decide, by rw [List.length_map]; exact hl, fun n hn => ?_⟩, ?_⟩)
  · obtain ⟨i, _, rfl⟩ := List.mem_map.mp hn
    show 0 ≤ if i < 0 then -i else i
    split <;> omega
  · unfold bagL
    rw [List.map_map]
    rfl
/-! ### _law_some -/
def spSome : Spf := fun ds R => ∃ xs : List D, ds = [.list xs] ∧ 0 < xs.length ∧ xs.length ≤ 1000000 ∧ ∀ x, x ∈ xs → R x
theorem sc22 : FnScope ["_law_bag_here", "_law_things"] ["_law_bag_here", "_law_things"] (defScope (top 22)) := ⟨rfl, rfl, rfl, by decide +kernel, rfl, by decide +kernel, by decide +kernel⟩
theorem ok_some (T : Tx K mg) : FnN P w K mg base 2 "_law_some" ["_law_bag_here", "_law_things"] (spB K spSome) := by
  obtain ⟨f, fd, F, hmg⟩ := T.top (x := "_law_some") (j := 22) 11
  refine fnB_of F hmg sc22 (fun _ _ _ _ _ _ us hl => match us, hl with | [_, _], _ => rfl) (fun ds R h => by obtain ⟨_, rfl, _⟩ := h; rfl) fun cdv A outer s H E b ds R hr h => ?_
  obtain ⟨xs, rfl, h0, hz, q⟩ := h
  refine wss_one (ws_ret (w_ix (w_var 1 rfl (w_callB' 0 (ok_take T) hr (Nat.le_refl _) rfl (wa_cons (w_len T (w_var 1 rfl ⟨xs, .inl rfl, wa_nil ⟨xs.length, rfl, h0, hz, fun v hv => ?_⟩⟩)))))))
  obtain ⟨d, hd⟩ : ∃ d, xs[v]? = some d := ⟨xs[v], List.getElem?_eq_getElem hv⟩
  exact xd_lst hd ⟨q d (List.mem_of_getElem? hd), _, rfl, BagLike.bag⟩
/-! ### _law_mixed -/
def spMixed : Spf := fun ds R => ∃ xs : List Nat, ds = [.list (xs.map dN)] ∧ xs.length ≤ 1000 ∧ ∀ ys : List Nat, ys.Perm xs → R (.list (ys.map dN))
theorem sc23 : FnScope ["_law_bag_here", "_law_things", "_law_found", "_law_thing"] ["_law_bag_here", "_law_things"] (defScope (top 23)) := ⟨rfl, rfl, rfl, by decide +kernel, rfl, by decide +kernel, by decide +kernel⟩
theorem ok_mixed (T : Tx K mg) : FnN P w K mg base 2 "_law_mixed" ["_law_bag_here", "_law_things"] (spB K spMixed) := by
  obtain ⟨f, fd, F, hmg⟩ := T.top (x := "_law_mixed") (j := 23) 12
  refine fnB_of F hmg sc23 (fun _ _ _ _ _ _ us hl => match us, hl with | [_, _], _ => rfl) (fun ds R h => by obtain ⟨_, rfl, _⟩ := h; rfl) fun cdv A outer s H E b ds R hr h => ?_
  obtain ⟨xs, rfl, hz, q⟩ := h
  refine wss_cons (ws_setV 2 sc23.nd (wv_lst (wa_nil ⟨szl (Nat.zero_le _), fun _ => ?_⟩)))
  refine wss_cons (ws_forN 3 sc23.nd (wi_list (w_var 1 rfl ⟨_, rfl, ?_⟩)))
  refine forQ_map xs dN (fun pre S' => ∃ (zs : List Nat) (c : Sv K), zs.Perm pre ∧ S' = [.bag b, .dat (.list (xs.map dN)), .own (zs.map dN), c]) ⟨[], .no, .refl _, rfl⟩ (fun pre a post S' e hl hs => ?_) (fun S' hl hs => fun _ => ?_)
  · obtain ⟨zs, c, hp, rfl⟩ := hs
    have hl2 : zs.length < xs.length := by
      rw [hp.length_eq, e, List.length_append, List.length_cons]
      omega
    refine ⟨_, rfl, wss_one (ws_insert 2 rfl ?_ (w_callB' 0 (ok_take T) hr (Nat.le_refl _) rfl (wa_cons (w_addN (w_lenOwn T 2 rfl ⟨zs.length, by rw [List.length_map], w_int ⟨1, rfl, wa_nil ⟨_, rfl, Nat.succ_pos _, ?_, fun v hv => ⟨v, rfl, ?_, w_var 3 rfl ?_⟩⟩⟩⟩)))))⟩
    · rw [List.length_map]
      omega
    · omega
    · omega
    · refine ⟨zs.take v ++ [a] ++ zs.drop v, .dat (dN a), ?_, ?_⟩
      · have h1 : (zs.take v ++ [a] ++ zs.drop v).Perm ([a] ++ zs) := by
          have h2 : (zs.take v ++ [a] ++ zs.drop v).Perm ([a] ++ zs.take v ++ zs.drop v) := List.Perm.append_right _ List.perm_append_comm
          have h3 : [a] ++ zs.take v ++ zs.drop v = [a] ++ zs := by rw [List.append_assoc, List.take_append_drop]
          rw [h3] at h2
          exact h2
        exact h1.trans ((List.Perm.append_left [a] hp).trans List.perm_append_comm)
      · rw [List.map_append, List.map_append, List.map_take, List.map_drop]
        rfl
  · obtain ⟨zs, c, hp, rfl⟩ := hs
    refine wss_frz 2 rfl (wss_one (ws_ret (w_var 2 rfl ⟨q zs hp, _, rfl, BagLike.bag⟩)))
/-! ### _law_signs -/
def SigOk (m : Nat) (σ : List Nat) : Prop := σ.length ≤ m ∧ σ[0]? = some 0 ∧ ∀ s, s ∈ σ → s ≤ 2
def spSigns : Spf := fun ds R => ∃ m : Nat, ds = [dN m] ∧ 0 < m ∧ m ≤ 6 ∧ ∀ σ : List Nat, SigOk m σ → R (tN σ)
theorem sc25 : FnScope ["_law_bag_here", "_law_most", "_law_found", "_law_turn"] ["_law_bag_here", "_law_most"] (defScope (top 25)) := ⟨rfl, rfl, rfl, by decide +kernel, rfl, by decide +kernel, by decide +kernel⟩
theorem ok_signs (T : Tx K mg) : FnN P w K mg base 3 "_law_signs" ["_law_bag_here", "_law_most"] (spB K spSigns) := by
  obtain ⟨f, fd, F, hmg⟩ := T.top (x := "_law_signs") (j := 25) 14
  refine fnB_of F hmg sc25 (fun _ _ _ _ _ _ us hl => match us, hl with | [_, _], _ => rfl) (fun ds R h => by obtain ⟨_, rfl, _⟩ := h; rfl) fun cdv A outer s H E b ds R hr h => ?_
  obtain ⟨m, rfl, h0, hm, q⟩ := h
  refine wss_cons (ws_setV 2 sc25.nd (wv_lst (wa_cons (w_int (wa_nil ⟨szl (Nat.le_of_ble_eq_true rfl), fun _ => ?_⟩)))))
  refine wss_cons (ws_forN 3 sc25.nd (wi_range rfl T.free (w_callB' 0 (ok_take T) hr (by decide) rfl (wa_cons (w_var 1 rfl (wa_nil ⟨m, rfl, h0, by omega, fun v hv => ⟨_, rfl, by omega, by omega, ?_⟩⟩))))))
  rw [Int.toNat_natCast]
  refine forQ_map (List.range v) _ (fun pre S' => ∃ (zs : List Nat) (c : Sv K), zs.length = pre.length + 1 ∧ zs[0]? = some 0 ∧ (∀ s, s ∈ zs → s ≤ 2) ∧ S' = [.bag b, .dat (dN m), .own (zs.map dN), c]) ⟨[0], .no, rfl, rfl, fun s hs => by rw [List.mem_singleton] at hs; omega, rfl⟩ (fun pre a post S' e hl hs => ?_) (fun S' hl hs => fun _ => ?_)
  · obtain ⟨zs, c, hp, hz0, hz2, rfl⟩ := hs
    have hlen := congrArg List.length e
    rw [List.length_range, List.length_append, List.length_cons] at hlen
    refine ⟨_, rfl, wss_one (ws_append 2 rfl (by rw [List.length_map]; omega) (w_callB' 0 (ok_some T) hr (Nat.le_refl _) rfl (wa_cons (w_lst (wa_cons (w_int (wa_cons (w_int (wa_cons (w_int (wa_cons (w_int (wa_cons (w_int (wa_nil ⟨szl (Nat.le_of_ble_eq_true rfl), wa_nil ⟨[dN 1, dN 2, dN 1, dN 0, dN 2], rfl, by decide, by decide, fun x hx => ?_⟩⟩)))))))))))))))⟩
    obtain ⟨k, hk, rfl⟩ : ∃ k : Nat, k ≤ 2 ∧ x = dN k := by
      simp only [List.mem_cons, List.not_mem_nil, or_false] at hx
      rcases hx with h | h | h | h | h <;> exact ⟨_, by decide, h⟩
    refine ⟨zs ++ [k], .dat (.int (0 + (a : Int) * 1)), by rw [List.length_append, List.length_append, hp]; rfl, ?_, fun s hs => ?_, ?_⟩
    · rw [List.getElem?_append_left (by omega)]
      exact hz0
    · rcases List.mem_append.mp hs with h | h
      · exact hz2 s h
      · rw [List.mem_singleton] at h
        omega
    · rw [List.map_append]
      rfl
  · obtain ⟨zs, c, hp, hz0, hz2, rfl⟩ := hs
    refine wss_frz 2 rfl (wss_one (ws_ret (w_tuple T (w_var 2 rfl ⟨_, rfl, q zs ⟨?_, hz0, hz2⟩, _, rfl, BagLike.bag⟩))))
    rw [List.length_range] at hp
    omega
/-! ### _law_entry -/
def EnOk (many : Nat) (σ : List Nat) (e : En) : Prop := σ[e.s]? = some e.ps.length ∧ (∀ k, k ∈ e.ps → k < many) ∧ e.k < many
def spEntry : Spf := fun ds R => ∃ (many : Nat) (σ : List Nat) (s : Nat), ds = [dN many, tN σ, dN s] ∧ 0 < many ∧ many ≤ 4 ∧ s < σ.length ∧ (∀ s, s ∈ σ → s ≤ 2) ∧ ∀ e : En, e.s = s → EnOk many σ e → R e.enc
theorem sc26 : FnScope ["_law_bag_here", "_law_many", "_law_signs_here", "_law_sign", "_law_part"] ["_law_bag_here", "_law_many", "_law_signs_here", "_law_sign"] (defScope (top 26)) := ⟨rfl, rfl, rfl, by decide +kernel, rfl, by decide +kernel, by decide +kernel⟩
theorem ints_of {Pr : Nat → Prop} : ∀ {ys : List D}, (∀ y, y ∈ ys → ∃ n : Nat, y = dN n ∧ Pr n) → ∃ ns : List Nat, ys = ns.map dN ∧ ∀ n, n ∈ ns → Pr n
  | [], _ => ⟨[], rfl, fun n h => by cases h⟩
  | y :: ys, h => by
    obtain ⟨n, rfl, hn⟩ := h y List.mem_cons_self
    obtain ⟨ns, rfl, hns⟩ := ints_of (ys := ys) fun z hz => h z (List.mem_cons_of_mem _ hz)
    exact ⟨n :: ns, rfl, fun m hm => by
      rcases List.mem_cons.mp hm with rfl | hm
      · exact hn
      · exact hns m hm⟩
theorem ok_entry (T : Tx K mg) : FnN P w K mg base 2 "_law_entry" ["_law_bag_here", "_law_many", "_law_signs_here", "_law_sign"] (spB K spEntry) := by
  obtain ⟨f, fd, F, hmg⟩ := T.top (x := "_law_entry") (j := 26) 15
  refine fnB_of F hmg sc26 (fun _ _ _ _ _ _ us hl => match us, hl with | [_, _, _, _], _ => rfl) (fun ds R h => by obtain ⟨_, _, _, rfl, _⟩ := h; rfl) fun cdv A outer s H E b ds R hr h => ?_
  obtain ⟨many, σ, sg, rfl, h0, h4, hs, hσ, q⟩ := h
  have hg := getD_of hs 0
  have hm := List.mem_of_getElem? hg
  have h2 := hσ _ hm
  refine wss_one (ws_ret (w_tup (wa_cons (w_var 3 rfl (wa_cons (w_tuple T ?_))))))
  refine w_lcN 4 [("_law_part", 4)] sc26.nd (blkOk_by (N := ["_law_bag_here", "_law_many", "_law_signs_here", "_law_sign", "_law_part"]) (sc := defScope (top 26)) (by decide +kernel)) (idle1 rfl) ?_
  refine wi_range rfl T.free (w_ix (w_var 2 rfl (w_var 3 rfl (xd_tup (d := dN (σ.getD sg 0)) (by rw [List.getElem?_map, hg]; rfl) ⟨_, rfl, by omega, by omega, ?_⟩))))
  rw [Int.toNat_natCast]
  refine lcq_any (List.range (σ.getD sg 0)) _ (fun _ y => ∃ n : Nat, y = dN n ∧ n < many) (slt (by rw [List.length_range]; omega)) (fun a ha => ⟨_, rfl, fun s H C cl fp => ?_⟩) fun ys hl hp => ⟨_, rfl, wa_cons ?_⟩
  · exact w_callB' 0 (ok_take T) hr (Nat.le_refl _) rfl (wa_cons (w_var 1 rfl (wa_nil ⟨many, rfl, h0, by omega, fun v hv => ⟨v, rfl, hv⟩⟩)))
  · rw [List.length_range] at hl
    obtain ⟨ns, rfl, hns⟩ := ints_of (Pr := fun n => n < many) (ys := ys) fun y hy => by
      obtain ⟨i, hi⟩ := List.getElem?_of_mem hy
      have hlt := (List.getElem?_eq_some_iff.mp hi).1
      exact hp i i y (List.getElem?_range (by omega)) hi
    rw [List.length_map] at hl
    refine w_callB' 0 (ok_take T) hr (Nat.le_refl _) rfl (wa_cons (w_var 1 rfl (wa_nil ⟨many, rfl, h0, by omega, fun v hv => wa_nil ⟨szl (Nat.le_of_ble_eq_true rfl), ?_, _, rfl, BagLike.bag⟩⟩)))
    refine q ⟨sg, ns, v⟩ rfl ⟨?_, hns, hv⟩
    show σ[sg]? = some ns.length
    rw [hg, hl]
end
end K3
end

section
set_option autoImplicit true
set_option Elab.async false
set_option linter.all false
set_option maxRecDepth 100000
set_option maxHeartbeats 1000000
namespace K3
open PySem PySem.Spec PyProof.Rows L2
section
variable {X : Cx} {S : Sto X.K} {Q : D → Prop} {e e2 o : Expr} {es : List Expr} {pos p : Pos}
/-- a - b -/
theorem w_subN (h : W X e S fun d => ∃ a : Nat, d = dN a ∧ W X e2 S fun d2 => ∃ b : Nat, d2 = dN b ∧ b ≤ a ∧ Q (dN (a - b))) : W X (.BinOp e .Sub e2 pos) S Q :=
  w_op (h.mono fun d ⟨a, ed, h2⟩ => h2.mono fun d2 ⟨b, ed2, hb, q⟩ => by
    subst ed ed2
    have e1 : ((a : Int) - (b : Int)) = ((a - b : Nat) : Int) := by omega
    exact od_sub (by rw [e1]; exact q))
theorem lit0 (c : W X e S fun d => d = dN 0) : True := trivial
end
/-- in order, each once -/
def Srt (es : List En) : Prop := es.Pairwise fun a b => PySem.W.dataLt a.enc b.enc = true
structure TbOk (many most : Nat) (t : Tb) : Prop where
  m : t.many = many
  s : SigOk most t.signs
  e : ∀ e, e ∈ t.ents → EnOk many t.signs e
  n : t.ents.length ≤ 24
  o : Srt t.ents
def spTold : Spf := fun ds R => ∃ (many : Nat) (σ : List Nat) (es : List En), ds = [dN many, tN σ, .list (es.map En.enc)] ∧ es.length ≤ 1000 ∧ (∀ e, e ∈ es → e.ps.length ≤ 10) ∧ ∀ es' : List En, (∀ e, e ∈ es' → e ∈ es) → es'.length ≤ 24 → Srt es' → R (Tb.mk many σ es').enc
theorem SigOk.len {m : Nat} {σ : List Nat} (h : SigOk m σ) {s n : Nat} (e : σ[s]? = some n) : n ≤ 2 := h.2.2 n (List.mem_of_getElem? e)
section
variable {P : Program} {w : World} {K : PySem.W.Frag} {mg : Str → Option Value} {base : Heap}
abbrev Told (P : Program) (w : World) (K : PySem.W.Frag) (mg : Str → Option Value) (base : Heap) : Prop := FnN P w K mg base 2 "_law_told" ["_law_many", "_law_signs_here", "_law_entries"] (spD K spTold)
/-! ### _law_any_table -/
def spAny : Spf := fun ds R => ∃ many most : Nat, ds = [dN many, dN most] ∧ 0 < many ∧ many ≤ 4 ∧ 0 < most ∧ most ≤ 6 ∧ ∀ t, TbOk many most t → R t.enc
theorem sc28 : FnScope ["_law_bag_here", "_law_many", "_law_most", "_law_turn", "_law_signs_here", "_law_found"] ["_law_bag_here", "_law_many", "_law_most"] (defScope (top 28)) := ⟨rfl, rfl, rfl, by decide +kernel, rfl, by decide +kernel, by decide +kernel⟩
theorem ok_any (T : Tx K mg) (G : Told P w K mg base) : FnN P w K mg base 4 "_law_any_table" ["_law_bag_here", "_law_many", "_law_most"] (spB K spAny) := by
  obtain ⟨f, fd, F, hmg⟩ := T.top (x := "_law_any_table") (j := 28) 17
  refine fnB_of F hmg sc28 (fun _ _ _ _ _ _ us hl => match us, hl with | [_, _, _], _ => rfl) (fun ds R h => by obtain ⟨_, _, rfl, _⟩ := h; rfl) fun cdv A outer s H E b ds R hr h => ?_
  obtain ⟨many, most, rfl, h1, h4, g1, g6, q⟩ := h
  refine wss_cons (ws_par2 4 5 sc28.nd (wva_cons (wv_dat (w_callB' 0 (ok_signs T) hr (Nat.le_refl _) rfl (wa_cons (w_var 2 rfl (wa_nil ⟨most, rfl, g1, g6, fun σ hσ => wva_cons (wv_lst (wa_nil ⟨szl (Nat.zero_le _), wva_nil ⟨rfl, fun _ => ?_⟩⟩))⟩)))))))
  have hl0 : 0 < σ.length := (List.getElem?_eq_some_iff.mp hσ.2.1).1
  have hl6 := hσ.1
  refine wss_cons (ws_forN 3 sc28.nd (wi_range rfl T.free (w_callB' 0 (ok_take T) hr (by decide) rfl (wa_cons (w_addN (w_callB' 0 (ok_some T) hr (by decide) rfl (wa_cons (w_lst (wa_cons (w_int (wa_cons (w_int (wa_cons (w_int (wa_cons (w_int (wa_cons (w_int (wa_nil ⟨szl (Nat.le_of_ble_eq_true rfl), wa_nil ⟨[dN 4, dN 9, dN 15, dN 24, dN 1], rfl, by decide, by decide, fun x hx => ?_⟩⟩)))))))))))))))))))
  obtain ⟨k, hk, rfl⟩ : ∃ k : Nat, k ≤ 24 ∧ x = dN k := by
    simp only [List.mem_cons, List.not_mem_nil, or_false] at hx
    rcases hx with h | h | h | h | h <;> exact ⟨_, by decide, h⟩
  refine ⟨k, rfl, w_int ⟨1, rfl, wa_nil ⟨k + 1, rfl, by omega, by omega, fun v hv => ⟨_, rfl, by omega, by omega, ?_⟩⟩⟩⟩
  rw [Int.toNat_natCast]
  refine forQ_map (List.range v) _ (fun pre S' => ∃ (es : List En) (c : Sv K), es.length = pre.length ∧ (∀ e, e ∈ es → EnOk many σ e) ∧ S' = [.bag b, .dat (dN many), .dat (dN most), c, .dat (tN σ), .own (es.map En.enc)]) ⟨[], .no, rfl, fun e he => (nomatch he), rfl⟩ (fun pre a post S' e hl hs => ?_) (fun S' hl hs => fun _ => ?_)
  · obtain ⟨es, c, hp, hes, rfl⟩ := hs
    have hlen := congrArg List.length e
    rw [List.length_range, List.length_append, List.length_cons] at hlen
    refine ⟨_, rfl, wss_one (ws_append 5 rfl (by rw [List.length_map]; omega) (w_callB' 0 (ok_entry T) hr (by decide) rfl (wa_cons (w_var 1 rfl (wa_cons (w_var 4 rfl (wa_cons (w_callB' 0 (ok_take T) hr (by decide) rfl (wa_cons (w_len T (w_var 4 rfl ⟨_, .inr rfl, wa_nil ⟨σ.length, by rw [List.length_map], hl0, by omega, fun s hs => wa_nil ⟨many, σ, s, rfl, h1, h4, hs, hσ.2.2, fun e1 e2 e3 => ?_⟩⟩⟩)))))))))))⟩
    refine ⟨es ++ [e1], .dat (.int (0 + (a : Int) * 1)), by rw [List.length_append, List.length_append, hp]; rfl, fun e he => ?_, ?_⟩
    · rcases List.mem_append.mp he with h | h
      · exact hes e h
      · rw [List.mem_singleton] at h
        rw [h]
        exact e3
    · rw [List.map_append]
      rfl
  · obtain ⟨es, c, hp, hes, rfl⟩ := hs
    rw [List.length_range] at hp
    refine wss_frz 5 rfl (wss_one (ws_ret (w_call G hr (by decide) (wa_cons (w_var 1 rfl (wa_cons (w_var 4 rfl (wa_cons (w_var 5 rfl (wa_nil ⟨many, σ, es, rfl, by omega, fun e he => ?_, fun es' m1 m2 m3 => ⟨q ⟨many, σ, es'⟩ ⟨rfl, hσ, fun e he => hes e (m1 e he), m2, m3⟩, _, rfl, BagLike.bag⟩⟩))))))))))
    have := hσ.len (hes e he).1
    omega
end
end K3
end

section
set_option autoImplicit true
set_option Elab.async false
set_option linter.all false
set_option maxRecDepth 100000
set_option maxHeartbeats 1000000
namespace K3
open PySem PySem.Spec PyProof.Rows L2
section
variable {P : Program} {w : World} {K : PySem.W.Frag} {mg : Str → Option Value} {base : Heap}
/-! ### _law_chain_table -/
def spChain : Spf := fun ds R => ∃ many : Nat, ds = [dN many] ∧ 0 < many ∧ many ≤ 4 ∧ ∀ t, TbOk many 4 t → R t.enc
theorem sc30 : FnScope ["_law_bag_here", "_law_many", "_law_kind", "_law_found", "_law_signs_here"] ["_law_bag_here", "_law_many"] (defScope (top 30)) := ⟨rfl, rfl, rfl, by decide +kernel, rfl, by decide +kernel, by decide +kernel⟩
/-- entries so far -/
def GoodE (many : Nat) (σ : List Nat) (n : Nat) (es : List En) : Prop := es.length ≤ n ∧ ∀ e, e ∈ es → EnOk many σ e
theorem GoodE.snoc {many : Nat} {σ : List Nat} {n : Nat} {es : List En} (h : GoodE many σ n es) {e : En} (he : EnOk many σ e) : GoodE many σ (n + 1) (es ++ [e]) := by
  refine ⟨by rw [List.length_append]; exact Nat.succ_le_succ h.1, fun x hx => ?_⟩
  rcases List.mem_append.mp hx with q | q
  · exact h.2 x q
  · rw [List.mem_singleton] at q
    rw [q]
    exact he
theorem GoodE.mono {many : Nat} {σ : List Nat} {n m : Nat} {es : List En} (h : GoodE many σ n es) (l : n ≤ m) : GoodE many σ m es := ⟨Nat.le_trans h.1 l, h.2⟩
theorem enc_snoc (es : List En) (e : En) : es.map En.enc ++ [e.enc] = (es ++ [e]).map En.enc := by rw [List.map_append]; rfl
theorem ok_chain (T : Tx K mg) (G : Told P w K mg base) : FnN P w K mg base 3 "_law_chain_table" ["_law_bag_here", "_law_many"] (spB K spChain) := by
  obtain ⟨f, fd, F, hmg⟩ := T.top (x := "_law_chain_table") (j := 30) 19
  refine fnB_of F hmg sc30 (fun _ _ _ _ _ _ us hl => match us, hl with | [_, _], _ => rfl) (fun ds R h => by obtain ⟨_, rfl, _⟩ := h; rfl) fun cdv A outer s H E b ds R hr h => ?_
  obtain ⟨many, rfl, h1, h4, q⟩ := h
  refine @wss_mid _ _ _ _ _ (fun S' => ∃ (n : Nat) (es : List En), 2 ≤ n ∧ n ≤ 4 ∧ GoodE many (([0, 1, 2, 1] : List Nat).take n) 2 es ∧ S' = [.bag b, .dat (dN many), .no, .own (es.map En.enc), .dat (tN (([0, 1, 2, 1] : List Nat).take n))]) ?_ fun S' hl hs => ?_
  · refine ws_par2 3 4 sc30.nd (wva_cons (wv_lst (wa_cons (w_tup (wa_cons (w_int (wa_cons (w_tup (wa_nil ⟨szl (Nat.zero_le _), wa_cons (w_int (wa_nil ⟨szl (Nat.le_of_ble_eq_true rfl), ?_⟩))⟩)))))))))
    refine wa_cons (w_tup (wa_cons (w_int (wa_cons (w_tup (wa_nil ⟨szl (Nat.zero_le _), wa_cons (w_subN (w_var 1 rfl ⟨many, rfl, w_int ⟨1, rfl, h1, wa_nil ⟨szl (Nat.le_of_ble_eq_true rfl), wa_nil ⟨szl (Nat.le_of_ble_eq_true rfl), ?_⟩⟩⟩⟩))⟩))))))
    refine wva_cons (wv_dat (w_sl (w_tup (wa_cons (w_int (wa_cons (w_int (wa_cons (w_int (wa_cons (w_int (wa_nil ⟨szl (Nat.le_of_ble_eq_true rfl), ?_⟩))))))))))))
    refine w_callB' 0 (ok_some T) hr (by decide) rfl (wa_cons (w_lst (wa_cons (w_int (wa_cons (w_int (wa_cons (w_int (wa_cons (w_int (wa_nil ⟨szl (Nat.le_of_ble_eq_true rfl), wa_nil ⟨[dN 2, dN 3, dN 4, dN 3], rfl, by decide, by decide, fun x hx => ?_⟩⟩)))))))))))
    obtain ⟨k, hk, hk2, rfl⟩ : ∃ k : Nat, 2 ≤ k ∧ k ≤ 4 ∧ x = dN k := by
      simp only [List.mem_cons, List.not_mem_nil, or_false] at hx
      rcases hx with h | h | h | h <;> exact ⟨_, by decide, by decide, h⟩
    refine ⟨(k : Int), rfl, sd_tup (wva_nil ⟨rfl, k, [⟨0, [], 0⟩, ⟨0, [], many - 1⟩], hk, hk2, ⟨Nat.le_of_ble_eq_true rfl, fun e he => ?_⟩, ?_⟩)⟩
    · have h0 : ∀ e : En, e.s = 0 → e.ps = [] → e.k < many → EnOk many (([0, 1, 2, 1] : List Nat).take k) e := fun e a1 a2 a3 => by
        refine ⟨?_, fun x hx => ?_, a3⟩
        · rw [a1, a2, List.getElem?_take_of_lt (by omega)]
          rfl
        · rw [a2] at hx
          cases hx
      rcases List.mem_cons.mp he with rfl | he
      · exact h0 _ rfl rfl h1
      · rw [List.mem_singleton] at he
        subst he
        exact h0 _ rfl rfl (by show many - 1 < many; omega)
    · have e1 : cutD [PyData.int 0, .int 1, .int 2, .int 1] none (some (k : Int)) = (([0, 1, 2, 1] : List Nat).take k).map dN := by
        rw [cutD_upto, List.map_take]
        rfl
      rw [e1]
      rfl
  · obtain ⟨n, es0, hn2, hn4, hg0, rfl⟩ := hs
    have hσ : SigOk 4 (([0, 1, 2, 1] : List Nat).take n) := by
      refine ⟨by rw [List.length_take]; exact Nat.min_le_right _ _, by rw [List.getElem?_take_of_lt (by omega)]; rfl, fun s hs => ?_⟩
      have := List.mem_of_mem_take hs
      simp only [List.mem_cons, List.not_mem_nil, or_false] at this
      omega
    have hlen : (([0, 1, 2, 1] : List Nat).take n).length = n := by rw [List.length_take]; exact Nat.min_eq_left hn4
    have eok : ∀ (s k : Nat) (ps : List Nat), s < n → ([0, 1, 2, 1] : List Nat)[s]? = some ps.length → (∀ x, x ∈ ps → x < many) → k < many → EnOk many (([0, 1, 2, 1] : List Nat).take n) ⟨s, ps, k⟩ := fun s k ps a1 a2 a3 a4 => by
      refine ⟨?_, a3, a4⟩
      show (([0, 1, 2, 1] : List Nat).take n)[s]? = some ps.length
      rw [List.getElem?_take_of_lt a1, a2]
    refine wss_cons (ws_forN 2 sc30.nd (wi_range rfl T.free (w_var 1 rfl ⟨_, rfl, by omega, by omega, ?_⟩)))
    rw [Int.toNat_natCast]
    generalize hτ : ([0, 1, 2, 1] : List Nat).take n = τ at *
    refine forQ_map (List.range many) _ (fun pre S' => ∃ (es : List En) (c : Sv K), GoodE many τ (2 + 4 * pre.length) es ∧ S' = [.bag b, .dat (dN many), c, .own (es.map En.enc), .dat (tN τ)]) ⟨es0, .no, hg0, rfl⟩ (fun pre k post S' e hl hs => ?_) (fun S' hl hs => fun _ => ?_)
    · obtain ⟨es, c, hg, rfl⟩ := hs
      have hk : k < many := List.mem_range.mp (by rw [e]; simp)
      have hpl : pre.length ≤ 4 := by
        have := congrArg List.length e
        rw [List.length_range, List.length_append, List.length_cons] at this
        omega
      have hkk : (0 + (k : Int) * 1) = (k : Int) := by omega
      refine ⟨[.bag b, .dat (dN many), .dat (dN k), .own (es.map En.enc), .dat (tN τ)], ?_, ?_⟩
      · show _ = [Sv.bag b, .dat (dN many), .dat (.int (0 + (k : Int) * 1)), .own (es.map En.enc), .dat (tN τ)]
        rw [hkk]
      have e1 := eok 1 k [k] (by omega) rfl (fun x hx => by rw [List.mem_singleton] at hx; omega) hk
      refine wss_cons (ws_append 3 rfl (by rw [List.length_map]; have := hg.1; omega) (w_tup (wa_cons (w_int (wa_cons (w_tup (wa_cons (w_var 2 rfl (wa_nil ⟨szl (Nat.le_of_ble_eq_true rfl), wa_cons (w_var 2 rfl (wa_nil ⟨szl (Nat.le_of_ble_eq_true rfl), fun _ => ?_⟩))⟩)))))))))
      have g1 := hg.snoc e1
      refine @wss_mid _ _ _ _ _ (fun S' => ∃ es, GoodE many τ (2 + 4 * pre.length + 2) es ∧ S' = [.bag b, .dat (dN many), .dat (dN k), .own (es.map En.enc), .dat (tN τ)]) ?_ fun S' hl hs => ?_
      · refine ws_if (wt_pw (ww_and (wt_cmp (w_var 2 rfl (w_int (od_gt ⟨_, rfl, ite_dec (fun c1 => ?_) fun c1 => ?_⟩))))))
        · refine ww_and1 (wt_cmp (w_callB' 0 (ok_take T) hr (by decide) rfl (wa_cons (w_int (wa_nil ⟨2, rfl, by decide, by decide, fun v hv => w_int (od_eq ⟨_, rfl, ite_dec (fun c2 => ?_) fun c2 => ?_⟩)⟩)))))
          · refine wss_one (ws_append 3 rfl (by rw [List.length_append, List.length_map]; have := hg.1; exact (by omega : es.length + 1 < 100000)) (w_tup (wa_cons (w_int (wa_cons (w_tup (wa_cons (w_var 2 rfl (wa_nil ⟨szl (Nat.le_of_ble_eq_true rfl), wa_cons (w_subN (w_var 2 rfl ⟨k, rfl, w_int ⟨1, rfl, by omega, wa_nil ⟨szl (Nat.le_of_ble_eq_true rfl), ?_⟩⟩⟩))⟩)))))))))
            have e2 := eok 1 (k - 1) [k] (by omega) rfl (fun x hx => by rw [List.mem_singleton] at hx; omega) (by omega)
            refine ⟨es ++ [⟨1, [k], k⟩] ++ [⟨1, [k], k - 1⟩], g1.snoc e2, ?_⟩
            rw [← enc_snoc, ← enc_snoc]
            rfl
          · refine wss_nil ⟨es ++ [⟨1, [k], k⟩], g1.mono (by omega), ?_⟩
            rw [← enc_snoc]
            rfl
        · refine wss_nil ⟨es ++ [⟨1, [k], k⟩], g1.mono (by omega), ?_⟩
          rw [← enc_snoc]
          rfl
      · obtain ⟨es2, g2, rfl⟩ := hs
        refine @wss_mid _ _ _ _ _ (fun S' => ∃ es, GoodE many τ (2 + 4 * pre.length + 3) es ∧ S' = [.bag b, .dat (dN many), .dat (dN k), .own (es.map En.enc), .dat (tN τ)]) ?_ fun S' hl hs => ?_
        · refine ws_if (wt_pw (ww_and (wt_cmp (w_len T (w_var 4 rfl ⟨_, .inr rfl, w_int (od_gt ⟨_, rfl, ite_dec (fun c1 => ?_) fun c1 => ?_⟩)⟩)))))
          · rw [List.length_map, hlen] at c1
            refine ww_and1 (wt_cmp (w_var 2 rfl (w_int (od_gt ⟨_, rfl, ite_dec (fun c2 => ?_) fun c2 => ?_⟩))))
            · refine wss_one (ws_append 3 rfl (by rw [List.length_map]; have := g2.1; omega) (w_tup (wa_cons (w_int (wa_cons (w_tup (wa_cons (w_var 2 rfl (wa_cons (w_callB' 0 (ok_take T) hr (by decide) rfl (wa_cons (w_addN (w_var 2 rfl ⟨k, rfl, w_int ⟨1, rfl, wa_nil ⟨k + 1, rfl, by omega, by omega, fun v hv => wa_nil ⟨szl (Nat.le_of_ble_eq_true rfl), wa_cons (w_subN (w_var 2 rfl ⟨k, rfl, w_int ⟨1, rfl, by omega, wa_nil ⟨szl (Nat.le_of_ble_eq_true rfl), ?_⟩⟩⟩))⟩⟩⟩⟩)))))))))))))
              have e2 := eok 2 (k - 1) [k, v] (by omega) rfl (fun x hx => by
                simp only [List.mem_cons, List.not_mem_nil, or_false] at hx
                omega) (by omega)
              refine ⟨es2 ++ [⟨2, [k, v], k - 1⟩], g2.snoc e2, ?_⟩
              rw [← enc_snoc]
              rfl
            · exact wss_nil ⟨es2, g2.mono (by omega), rfl⟩
          · exact wss_nil ⟨es2, g2.mono (by omega), rfl⟩
        · obtain ⟨es3, g3, rfl⟩ := hs
          refine wss_one (ws_if (wt_pw (ww_and (wt_cmp (w_len T (w_var 4 rfl ⟨_, .inr rfl, w_int (od_gt ⟨_, rfl, ite_dec (fun c1 => ?_) fun c1 => ?_⟩)⟩))))))
          · rw [List.length_map, hlen] at c1
            refine ww_and1 (wt_cmp (w_callB' 0 (ok_take T) hr (by decide) rfl (wa_cons (w_int (wa_nil ⟨2, rfl, by decide, by decide, fun v hv => w_int (od_eq ⟨_, rfl, ite_dec (fun c2 => ?_) fun c2 => ?_⟩)⟩)))))
            · refine wss_one (ws_append 3 rfl (by rw [List.length_map]; have := g3.1; omega) (w_tup (wa_cons (w_int (wa_cons (w_tup (wa_cons (w_var 2 rfl (wa_nil ⟨szl (Nat.le_of_ble_eq_true rfl), wa_cons (w_callB' 0 (ok_take T) hr (by decide) rfl (wa_cons (w_addN (w_var 2 rfl ⟨k, rfl, w_int ⟨1, rfl, wa_nil ⟨k + 1, rfl, by omega, by omega, fun v hv => wa_nil ⟨szl (Nat.le_of_ble_eq_true rfl), ?_⟩⟩⟩⟩))))⟩)))))))))
              have e2 := eok 3 v [k] (by omega) rfl (fun x hx => by rw [List.mem_singleton] at hx; omega) (by omega)
              refine ⟨es3 ++ [⟨3, [k], v⟩], .dat (dN k), (g3.snoc e2).mono (by rw [List.length_append, List.length_singleton]; omega), ?_⟩
              rw [← enc_snoc]
              rfl
            · exact wss_nil ⟨es3, .dat (dN k), g3.mono (by rw [List.length_append, List.length_singleton]; omega), rfl⟩
          · exact wss_nil ⟨es3, .dat (dN k), g3.mono (by rw [List.length_append, List.length_singleton]; omega), rfl⟩
    · obtain ⟨es, c, hg, rfl⟩ := hs
      rw [List.length_range] at hg
      refine wss_frz 3 rfl (wss_one (ws_ret (w_call G hr (by decide) (wa_cons (w_var 1 rfl (wa_cons (w_var 4 rfl (wa_cons (w_var 3 rfl (wa_nil ⟨many, τ, es, rfl, by have := hg.1; omega, fun e he => ?_, fun es' m1 m2 m3 => ⟨q ⟨many, τ, es'⟩ ⟨rfl, hσ, fun e he => hg.2 e (m1 e he), m2, m3⟩, _, rfl, BagLike.bag⟩⟩))))))))))
      have := hσ.len (hg.2 e he).1
      omega
end
end K3
end

section
set_option autoImplicit true
set_option Elab.async false
set_option linter.all false
set_option maxRecDepth 100000
set_option maxHeartbeats 1000000
namespace K3
open PySem PySem.Spec PyProof.Rows L2
section
variable {X : Cx} {S : Sto X.K} {Q : D → Prop} {a b b2 c e : Expr} {es : List Expr} {pos p p2 : Pos} {k k2 : Nat}
theorem wa_is {Q : List D → Prop} (d : D) (h : W X e S fun x => x = d) (q : WA X es S fun ds => Q (d :: ds)) (hs : starEach (e :: es) X.env = (false, eval e X.env) :: starEach es X.env := by rfl) : WA X (e :: es) S Q :=
  wa_cons (h.mono fun x ex => by rw [ex]; exact q) hs
theorem w_en0 (s n : Nat) (h1 : W X a S fun x => x = dN s) (h3 : W X c S fun x => x = dN n) (hs : starEach [a, .Tuple [] k p, c] X.env = (false, eval a X.env) :: starEach [.Tuple [] k p, c] X.env := by rfl) (hs2 : starEach [.Tuple [] k p, c] X.env = (false, eval (.Tuple [] k p) X.env) :: starEach [c] X.env := by rfl) (hs3 : starEach [c] X.env = (false, eval c X.env) :: starEach [] X.env := by rfl) :
    W X (.Tuple [a, .Tuple [] k p, c] k2 p2) S fun x => x = En.enc ⟨s, [], n⟩ :=
  w_tup (wa_is _ h1 (wa_is (.tuple []) (w_tup (wa_nil ⟨szl (Nat.zero_le _), rfl⟩)) (wa_is _ h3 (wa_nil ⟨szl (Nat.le_of_ble_eq_true rfl), rfl⟩) hs3) hs2) hs)
theorem w_en1 (s m n : Nat) (h1 : W X a S fun x => x = dN s) (h2 : W X b S fun x => x = dN m) (h3 : W X c S fun x => x = dN n) (hs : starEach [a, .Tuple [b] k p, c] X.env = (false, eval a X.env) :: starEach [.Tuple [b] k p, c] X.env := by rfl) (hs2 : starEach [.Tuple [b] k p, c] X.env = (false, eval (.Tuple [b] k p) X.env) :: starEach [c] X.env := by rfl) (hs3 : starEach [c] X.env = (false, eval c X.env) :: starEach [] X.env := by rfl)
    (hs4 : starEach [b] X.env = (false, eval b X.env) :: starEach [] X.env := by rfl) :
    W X (.Tuple [a, .Tuple [b] k p, c] k2 p2) S fun x => x = En.enc ⟨s, [m], n⟩ :=
  w_tup (wa_is _ h1 (wa_is (.tuple [dN m]) (w_tup (wa_is _ h2 (wa_nil ⟨szl (Nat.le_of_ble_eq_true rfl), rfl⟩) hs4)) (wa_is _ h3 (wa_nil ⟨szl (Nat.le_of_ble_eq_true rfl), rfl⟩) hs3) hs2) hs)
theorem w_en2 (s m l n : Nat) (h1 : W X a S fun x => x = dN s) (h2 : W X b S fun x => x = dN m) (h2' : W X b2 S fun x => x = dN l) (h3 : W X c S fun x => x = dN n) (hs : starEach [a, .Tuple [b, b2] k p, c] X.env = (false, eval a X.env) :: starEach [.Tuple [b, b2] k p, c] X.env := by rfl) (hs2 : starEach [.Tuple [b, b2] k p, c] X.env = (false, eval (.Tuple [b, b2] k p) X.env) :: starEach [c] X.env := by rfl) (hs3 : starEach [c] X.env = (false, eval c X.env) :: starEach [] X.env := by rfl)
    (hs4 : starEach [b, b2] X.env = (false, eval b X.env) :: starEach [b2] X.env := by rfl) (hs5 : starEach [b2] X.env = (false, eval b2 X.env) :: starEach [] X.env := by rfl) :
    W X (.Tuple [a, .Tuple [b, b2] k p, c] k2 p2) S fun x => x = En.enc ⟨s, [m, l], n⟩ :=
  w_tup (wa_is _ h1 (wa_is (.tuple [dN m, dN l]) (w_tup (wa_is _ h2 (wa_is _ h2' (wa_nil ⟨szl (Nat.le_of_ble_eq_true rfl), rfl⟩) hs5) hs4)) (wa_is _ h3 (wa_nil ⟨szl (Nat.le_of_ble_eq_true rfl), rfl⟩) hs3) hs2) hs)
end
section
variable {P : Program} {w : World} {K : PySem.W.Frag} {mg : Str → Option Value} {base : Heap}
/-! ### _law_planted_table -/
def spPlant : Spf := fun ds R => ∃ (many most way : Nat) (t : Tb), ds = [t.enc, dN way] ∧ 0 < many ∧ many ≤ 4 ∧ most ≤ 6 ∧ TbOk many most t ∧ way ≤ 2 ∧ ∀ t, TbOk many 6 t → R t.enc
theorem sc31 : FnScope ["_law_bag_here", "_law_table_here", "_law_way", "_law_signs_here", "_law_sign", "_law_entries", "_law_many", "_law_p", "_law_q", "_law_more", "_law_entry_here"] ["_law_bag_here", "_law_table_here", "_law_way"] (defScope (top 31)) := ⟨rfl, rfl, rfl, by decide +kernel, rfl, by decide +kernel, by decide +kernel⟩
theorem ok_plant (T : Tx K mg) (G : Told P w K mg base) : FnN P w K mg base 3 "_law_planted_table" ["_law_bag_here", "_law_table_here", "_law_way"] (spB K spPlant) := by
  obtain ⟨f, fd, F, hmg⟩ := T.top (x := "_law_planted_table") (j := 31) 20
  refine fnB_of F hmg sc31 (fun _ _ _ _ _ _ us hl => match us, hl with | [_, _, _], _ => rfl) (fun ds R h => by obtain ⟨_, _, _, _, rfl, _⟩ := h; rfl) fun cdv A outer s H E b ds R hr h => ?_
  obtain ⟨many, most, way, t, rfl, h1, h4, h6, ht, hw, q⟩ := h
  have hs0 : 0 < t.signs.length := (List.getElem?_eq_some_iff.mp ht.s.2.1).1
  have hs6 := ht.s.1
  refine wss_cons (ws_unp3 6 3 5 sc31.nd (w_var 1 rfl ⟨dN t.many, tN t.signs, encE t.ents, rfl, fun _ => ?_⟩))
  rw [ht.m]
  refine wss_cons (ws_par3' 7 8 9 sc31.nd (wva_cons (wv_dat (w_callB' 0 (ok_take T) hr (by decide) rfl (wa_cons (w_var 6 rfl (wa_nil ⟨many, rfl, h1, by omega, fun p hp => ?_⟩)))))))
  refine wva_cons (wv_dat (w_callB' 0 (ok_take T) hr (by decide) rfl (wa_cons (w_var 6 rfl (wa_nil ⟨many, rfl, h1, by omega, fun z hz => ?_⟩)))))
  refine wva_cons (wv_lst (wa_cons (w_tup (wa_cons (w_int (wa_cons (w_tup (wa_nil ⟨szl (Nat.zero_le _), wa_cons (w_callB' 0 (ok_take T) hr (by decide) rfl (wa_cons (w_var 6 rfl (wa_nil ⟨many, rfl, h1, by omega, fun v hv => wa_nil ⟨szl (Nat.le_of_ble_eq_true rfl), wa_nil ⟨szl (Nat.le_of_ble_eq_true rfl), wva_nil ⟨rfl, fun _ => ?_⟩⟩⟩⟩))))⟩))))))))
  obtain ⟨x, hx, hx2⟩ : ∃ x : Nat, x = (if way = 2 then 2 else 1) ∧ (x = 1 ∨ x = 2) := ⟨_, rfl, by split <;> omega⟩
  generalize hτ : t.signs.take 5 ++ [x] = τ
  refine wss_mid (fun S' => S' = [.bag b, .dat t.enc, .dat (dN way), .dat (tN τ), .no, .dat (encE t.ents), .dat (dN many), .dat (dN p), .dat (dN z), .own ([⟨0, [], v⟩].map En.enc), .no]) ?_ fun S' hl hs => ?_
  · refine ws_set 3 sc31.nd (w_op (w_sl (w_var 3 rfl (w_int ⟨5, rfl, sd_tup (w_tup (wa_cons (w_if (wt_cmp (w_var 2 rfl (w_int (od_eq ⟨_, rfl, ite_dec (fun c => w_int (wa_nil ⟨szl (Nat.le_of_ble_eq_true rfl), ?_⟩)) fun c => w_int (wa_nil ⟨szl (Nat.le_of_ble_eq_true rfl), ?_⟩)⟩)))))))⟩))))
    · have e2 : x = 2 := by rw [hx, if_pos (by omega)]
      refine od_catT ?_ ?_
      · have := cutD_len (t.signs.map dN) none (some 5)
        rw [List.length_map] at this
        exact szl (by rw [List.length_singleton]; omega)
      · have e1 : cutD (t.signs.map dN) none (some 5) ++ [PyData.int 2] = τ.map dN := by
          rw [show (5 : Int) = ((5 : Nat) : Int) from rfl, cutD_upto, ← hτ, e2, List.map_append, List.map_take]
          rfl
        rw [e1]
        rfl
    · have e2 : x = 1 := by rw [hx, if_neg (by omega)]
      refine od_catT ?_ ?_
      · have := cutD_len (t.signs.map dN) none (some 5)
        rw [List.length_map] at this
        exact szl (by rw [List.length_singleton]; omega)
      · have e1 : cutD (t.signs.map dN) none (some 5) ++ [PyData.int 1] = τ.map dN := by
          rw [show (5 : Int) = ((5 : Nat) : Int) from rfl, cutD_upto, ← hτ, e2, List.map_append, List.map_take]
          rfl
        rw [e1]
        rfl
  subst hs
  have hτl : τ.length = (t.signs.take 5).length + 1 := by rw [← hτ, List.length_append]; rfl
  have htl : (t.signs.take 5).length = min 5 t.signs.length := List.length_take
  have hσ : SigOk 6 τ := by
    refine ⟨by omega, ?_, fun s hs => ?_⟩
    · rw [← hτ, List.getElem?_append_left (by omega), List.getElem?_take_of_lt (by decide)]
      exact ht.s.2.1
    · rw [← hτ] at hs
      rcases List.mem_append.mp hs with hs | hs
      · exact ht.s.2.2 s (List.mem_of_mem_take hs)
      · rw [List.mem_singleton] at hs
        omega
  obtain ⟨sg, hsg⟩ : ∃ sg, sg = τ.length - 1 := ⟨_, rfl⟩
  refine wss_cons (ws_set 4 sc31.nd (w_subN (w_len T (w_var 3 rfl ⟨_, .inr rfl, τ.length, by rw [List.length_map], w_int ⟨1, rfl, by omega, fun _ => ?_⟩⟩))))
  rw [← hsg]
  refine wss_mid (fun S' => ∃ es : List En, es.length ≤ 16 ∧ (∀ e, e ∈ es → EnOk many τ e) ∧ S' = [.bag b, .dat t.enc, .dat (dN way), .dat (tN τ), .dat (dN sg), .dat (encE es), .dat (dN many), .dat (dN p), .dat (dN z), .own ([⟨0, [], v⟩].map En.enc), .no]) ?_ fun S' hl hs => ?_
  · refine ws_set 5 sc31.nd (w_sl (w_tuple T ?_))
    refine w_lcN 10 [("_law_entry_here", 10)] sc31.nd (blkOk_by (N := ["_law_bag_here", "_law_table_here", "_law_way", "_law_signs_here", "_law_sign", "_law_entries", "_law_many", "_law_p", "_law_q", "_law_more", "_law_entry_here"]) (sc := defScope (top 31)) (by decide +kernel)) (idle1 rfl) ?_
    refine wi_tup (w_var 5 rfl ⟨_, rfl, ?_⟩)
    refine lcq_filter t.ents En.enc (fun e => decide (e.s < sg)) En.enc (slt (by have := ht.n; omega)) (fun e he => ⟨_, rfl, fun s H C cl fp => wts_one (wt_cmp (w_ix (w_var 10 rfl (w_int (xd_tup (i := 0) rfl (w_var 4 rfl (od_lt ⟨_, rfl, ?_⟩))))))), fun _ s H C cl fp => w_var 10 rfl rfl⟩) ⟨_, rfl, w_int ⟨16, rfl, sd_tup ⟨(t.ents.filter fun e => decide (e.s < sg)).take 16, by rw [List.length_take]; omega, fun e he => ?_, ?_⟩⟩⟩
    · rw [decide_eq_decide]
      exact Int.ofNat_lt
    · have hm := List.mem_filter.mp (List.mem_of_mem_take he)
      have hlt : e.s < sg := of_decide_eq_true hm.2
      obtain ⟨g1, g2, g3⟩ := ht.e e hm.1
      rw [ht.m] at *
      refine ⟨?_, g2, g3⟩
      rw [← hτ, List.getElem?_append_left (by omega), List.getElem?_take_of_lt (by omega)]
      exact g1
    · rw [show (16 : Int) = ((16 : Nat) : Int) from rfl, cutD_upto, ← List.map_take]
      rfl
  obtain ⟨es, hes, hes2, rfl⟩ := hs
  have hτs : τ[sg]? = some x := by
    rw [← hτ, List.getElem?_append_right (by omega)]
    have : sg - (t.signs.take 5).length = 0 := by omega
    rw [this]
    rfl
  have e0 : ∀ k, k < many → EnOk many τ ⟨0, [], k⟩ := fun k hk => ⟨hσ.2.1, fun y hy => (nomatch hy), hk⟩
  have en : ∀ (ps : List Nat) (k : Nat), x = ps.length → (∀ y, y ∈ ps → y = p ∨ y = z) → k < many → EnOk many τ ⟨sg, ps, k⟩ := fun ps k a1 a2 a3 => by
    refine ⟨by rw [← a1]; exact hτs, fun y hy => ?_, a3⟩
    rcases a2 y hy with rfl | rfl
    · exact hp
    · exact hz
  refine wss_mid (fun S' => ∃ fs : List En, fs.length ≤ 10 ∧ (∀ e, e ∈ fs → EnOk many τ e) ∧ S' = [.bag b, .dat t.enc, .dat (dN way), .dat (tN τ), .dat (dN sg), .dat (encE es), .dat (dN many), .dat (dN p), .dat (dN z), .own (fs.map En.enc), .no]) ?_ fun S' hl hs => ?_
  · have fin : ∀ (gs : List En), gs.length ≤ 5 → (∀ e, e ∈ gs → EnOk many τ e) → ∃ fs : List En, fs.length ≤ 10 ∧ (∀ e, e ∈ fs → EnOk many τ e) ∧ ([.bag b, .dat t.enc, .dat (dN way), .dat (tN τ), .dat (dN sg), .dat (encE es), .dat (dN many), .dat (dN p), .dat (dN z), .own ([⟨0, [], v⟩].map En.enc), .no] : Sto K).set 9 (.own ([⟨0, [], v⟩].map En.enc ++ gs.map En.enc)) = [.bag b, .dat t.enc, .dat (dN way), .dat (tN τ), .dat (dN sg), .dat (encE es), .dat (dN many), .dat (dN p), .dat (dN z), .own (fs.map En.enc), .no] := fun gs a1 a2 => by
      refine ⟨⟨0, [], v⟩ :: gs, by rw [List.length_cons]; omega, fun e he => ?_, rfl⟩
      rcases List.mem_cons.mp he with rfl | he
      · exact e0 v hv
      · exact a2 e he
    refine ws_if (wt_cmp (w_var 2 rfl (w_int (od_eq ⟨_, rfl, ite_dec (fun c => ?_) fun c => ?_⟩))))
    · have hx1 : x = 1 := by rw [hx, if_neg (by omega)]
      refine wss_one (ws_extend 9 rfl (w_lst (wa_is _ (w_en1 sg p p (w_var 4 rfl rfl) (w_var 7 rfl rfl) (w_var 7 rfl rfl)) (wa_is _ (w_en1 sg z z (w_var 4 rfl rfl) (w_var 8 rfl rfl) (w_var 8 rfl rfl)) (wa_is _ (w_en1 sg z p (w_var 4 rfl rfl) (w_var 8 rfl rfl) (w_var 7 rfl rfl)) (wa_is _ (w_en0 0 z (w_int rfl) (w_var 8 rfl rfl)) (wa_nil ⟨szl (Nat.le_of_ble_eq_true rfl), _, rfl, Nat.le_of_ble_eq_true rfl, ?_⟩)))))))
      refine fin [⟨sg, [p], p⟩, ⟨sg, [z], z⟩, ⟨sg, [z], p⟩, ⟨0, [], z⟩] (Nat.le_of_ble_eq_true rfl) fun e he => ?_
      simp only [List.mem_cons, List.not_mem_nil, or_false] at he
      rcases he with rfl | rfl | rfl | rfl
      · exact en _ _ hx1 (fun y hy => .inl (List.mem_singleton.mp hy)) hp
      · exact en _ _ hx1 (fun y hy => .inr (List.mem_singleton.mp hy)) hz
      · exact en _ _ hx1 (fun y hy => .inr (List.mem_singleton.mp hy)) hp
      · exact e0 z hz
    · refine wss_one (ws_if (wt_cmp (w_var 2 rfl (w_int (od_eq ⟨_, rfl, ite_dec (fun c2 => ?_) fun c2 => ?_⟩)))))
      · have hx1 : x = 1 := by rw [hx, if_neg (by omega)]
        refine wss_one (ws_extend 9 rfl (w_lst (wa_is _ (w_en1 sg p p (w_var 4 rfl rfl) (w_var 7 rfl rfl) (w_var 7 rfl rfl)) (wa_is _ (w_en1 sg p z (w_var 4 rfl rfl) (w_var 7 rfl rfl) (w_var 8 rfl rfl)) (wa_is _ (w_en1 sg z p (w_var 4 rfl rfl) (w_var 8 rfl rfl) (w_var 7 rfl rfl)) (wa_is _ (w_en1 sg z z (w_var 4 rfl rfl) (w_var 8 rfl rfl) (w_var 8 rfl rfl)) (wa_is _ (w_en0 0 p (w_int rfl) (w_var 7 rfl rfl)) (wa_nil ⟨szl (Nat.le_of_ble_eq_true rfl), _, rfl, Nat.le_of_ble_eq_true rfl, ?_⟩))))))))
        refine fin [⟨sg, [p], p⟩, ⟨sg, [p], z⟩, ⟨sg, [z], p⟩, ⟨sg, [z], z⟩, ⟨0, [], p⟩] (Nat.le_of_ble_eq_true rfl) fun e he => ?_
        simp only [List.mem_cons, List.not_mem_nil, or_false] at he
        rcases he with rfl | rfl | rfl | rfl | rfl
        · exact en _ _ hx1 (fun y hy => .inl (List.mem_singleton.mp hy)) hp
        · exact en _ _ hx1 (fun y hy => .inl (List.mem_singleton.mp hy)) hz
        · exact en _ _ hx1 (fun y hy => .inr (List.mem_singleton.mp hy)) hp
        · exact en _ _ hx1 (fun y hy => .inr (List.mem_singleton.mp hy)) hz
        · exact e0 p hp
      · have hx1 : x = 2 := by rw [hx, if_pos (by omega)]
        refine wss_one (ws_extend 9 rfl (w_lst (wa_is _ (w_en2 sg p p p (w_var 4 rfl rfl) (w_var 7 rfl rfl) (w_var 7 rfl rfl) (w_var 7 rfl rfl)) (wa_is _ (w_en2 sg p z p (w_var 4 rfl rfl) (w_var 7 rfl rfl) (w_var 8 rfl rfl) (w_var 7 rfl rfl)) (wa_is _ (w_en0 0 p (w_int rfl) (w_var 7 rfl rfl)) (wa_is _ (w_en0 0 z (w_int rfl) (w_var 8 rfl rfl)) (wa_nil ⟨szl (Nat.le_of_ble_eq_true rfl), _, rfl, Nat.le_of_ble_eq_true rfl, ?_⟩)))))))
        refine fin [⟨sg, [p, p], p⟩, ⟨sg, [p, z], p⟩, ⟨0, [], p⟩, ⟨0, [], z⟩] (Nat.le_of_ble_eq_true rfl) fun e he => ?_
        simp only [List.mem_cons, List.not_mem_nil, or_false] at he
        rcases he with rfl | rfl | rfl | rfl
        · exact en _ _ hx1 (fun y hy => by simp only [List.mem_cons, List.not_mem_nil, or_false] at hy; omega) hp
        · exact en _ _ hx1 (fun y hy => by simp only [List.mem_cons, List.not_mem_nil, or_false] at hy; omega) hp
        · exact e0 p hp
        · exact e0 z hz
  · obtain ⟨fs, hfs, hfs2, rfl⟩ := hs
    refine wss_frz 9 rfl (wss_one (ws_ret (w_call G hr (by decide) (wa_cons (w_var 6 rfl (wa_cons (w_var 3 rfl (wa_cons (w_op (w_var 9 rfl (w_list T (w_var 5 rfl ⟨_, .inr rfl, od_catL ?_ (wa_nil ⟨many, τ, fs ++ es, ?_, ?_, fun e he => ?_, fun es' m1 m2 m3 => ⟨q ⟨many, τ, es'⟩ ⟨rfl, hσ, fun e he => ?_, m2, m3⟩, _, rfl, BagLike.bag⟩⟩)⟩))))))))))))
    · rw [List.length_map, List.length_map]
      exact szl (by omega)
    · rw [List.map_append]
    · rw [List.length_append]
      omega
    · have h : EnOk many τ e := by
        rcases List.mem_append.mp he with he | he
        · exact hfs2 e he
        · exact hes2 e he
      have := hσ.len h.1
      omega
    · rcases List.mem_append.mp (m1 e he) with he | he
      · exact hfs2 e he
      · exact hes2 e he
end
end K3
end

section
set_option autoImplicit true
set_option Elab.async false
set_option linter.all false
set_option maxRecDepth 100000
set_option maxHeartbeats 1000000
namespace K3
open PySem PySem.Spec PyProof.Rows L2
theorem TbOk.mono {many m n : Nat} {t : Tb} (h : TbOk many m t) (l : m ≤ n) : TbOk many n t := ⟨h.m, ⟨Nat.le_trans h.s.1 l, h.s.2⟩, h.e, h.n, h.o⟩
section
variable {P : Program} {w : World} {K : PySem.W.Frag} {mg : Str → Option Value} {base : Heap}
abbrev Plain (P : Program) (w : World) (K : PySem.W.Frag) (mg : Str → Option Value) (base : Heap) : Prop := FnN P w K mg base 5 "_law_plain_table" ["_law_bag_here", "_law_many", "_law_most"] (spB K spAny)
/-! ### _law_table -/
def spTable : Spf := fun ds R => ds = [] ∧ ∀ (many : Nat) (t : Tb), 0 < many → many ≤ 4 → TbOk many 6 t → R t.enc
theorem sc32 : FnScope ["_law_bag_here", "_law_base", "_law_way", "_law_many"] ["_law_bag_here"] (defScope (top 32)) := ⟨rfl, rfl, rfl, by decide +kernel, rfl, by decide +kernel, by decide +kernel⟩
theorem ok_table (T : Tx K mg) (G : Told P w K mg base) (GP : Plain P w K mg base) : FnN P w K mg base 6 "_law_table" ["_law_bag_here"] (spB K spTable) := by
  obtain ⟨f, fd, F, hmg⟩ := T.top (x := "_law_table") (j := 32) 21
  refine fnB_of F hmg sc32 (fun _ _ _ _ _ _ us hl => match us, hl with | [_], _ => rfl) (fun ds R h => by obtain ⟨rfl, _⟩ := h; rfl) fun cdv A outer s H E b ds R hr h => ?_
  obtain ⟨rfl, q⟩ := h
  refine wss_cons (ws_par2 2 3 sc32.nd (wva_cons (wv_dat (w_callB' 0 (ok_take T) hr (by decide) rfl (wa_cons (w_int (wa_nil ⟨9, rfl, by decide, by decide, fun way hw => wva_cons (wv_dat (w_callB' 0 (ok_some T) hr (by decide) rfl (wa_cons (w_lst (wa_cons (w_int (wa_cons (w_int (wa_cons (w_int (wa_cons (w_int (wa_cons (w_int (wa_cons (w_int (wa_nil ⟨szl (Nat.le_of_ble_eq_true rfl), wa_nil ⟨[dN 2, dN 3, dN 2, dN 4, dN 1, dN 3], rfl, by decide, by decide, fun x hx => ?_⟩⟩)))))))))))))))))⟩)))))))
  obtain ⟨many, h1, h4, rfl⟩ : ∃ k : Nat, 0 < k ∧ k ≤ 4 ∧ x = dN k := by
    simp only [List.mem_cons, List.not_mem_nil, or_false] at hx
    rcases hx with h | h | h | h | h | h <;> exact ⟨_, by decide, by decide, h⟩
  refine wva_nil ⟨rfl, fun _ => ?_⟩
  refine wss_cons (ws_if (wt_cmp (w_var 2 rfl (w_int (od_lt ⟨_, rfl, ite_dec (fun c => ?_) fun c => wss_nil fun _ => ?_⟩)))))
  · refine wss_one (ws_ret (w_callB' 0 (ok_any T G) hr (by decide) rfl (wa_cons (w_var 3 rfl (wa_cons (w_callB' 0 (ok_some T) hr (by decide) rfl (wa_cons (w_lst (wa_cons (w_int (wa_cons (w_int (wa_cons (w_int (wa_nil ⟨szl (Nat.le_of_ble_eq_true rfl), wa_nil ⟨[dN 3, dN 4, dN 6], rfl, by decide, by decide, fun x hx => ?_⟩⟩)))))))))))))))
    obtain ⟨m, g1, g6, rfl⟩ : ∃ k : Nat, 0 < k ∧ k ≤ 6 ∧ x = dN k := by
      simp only [List.mem_cons, List.not_mem_nil, or_false] at hx
      rcases hx with h | h | h <;> exact ⟨_, by decide, by decide, h⟩
    exact wa_nil ⟨many, m, rfl, h1, h4, g1, g6, fun t ht => ⟨q many t h1 h4 (ht.mono g6), _, rfl, BagLike.bag⟩⟩
  refine wss_cons (ws_if (wt_cmp (w_var 2 rfl (w_int (od_eq ⟨_, rfl, ite_dec (fun c => ?_) fun c => wss_nil fun _ => ?_⟩)))))
  · exact wss_one (ws_ret (w_callB' 0 GP hr (by decide) rfl (wa_cons (w_var 3 rfl (wa_cons (w_int (wa_nil ⟨many, 4, rfl, h1, h4, by decide, by decide, fun t ht => ⟨q many t h1 h4 (ht.mono (by decide)), _, rfl, BagLike.bag⟩⟩)))))))
  refine wss_cons (ws_if (wt_cmp (w_var 2 rfl (w_int (od_eq ⟨_, rfl, ite_dec (fun c => ?_) fun c => wss_nil fun _ => ?_⟩)))))
  · exact wss_one (ws_ret (w_callB' 0 (ok_chain T G) hr (by decide) rfl (wa_cons (w_var 3 rfl (wa_nil ⟨many, rfl, h1, h4, fun t ht => ⟨q many t h1 h4 (ht.mono (by decide)), _, rfl, BagLike.bag⟩⟩)))))
  refine wss_mid (fun S' => ∃ t, TbOk many 4 t ∧ S' = [.bag b, .dat t.enc, .dat (dN way), .dat (dN many)]) ?_ fun S' hl hs => ?_
  · refine ws_set 1 sc32.nd (w_callB' 0 (ok_some T) hr (by decide) rfl (wa_cons (w_lst (wa_cons (w_callB' 0 GP hr (by decide) rfl (wa_cons (w_var 3 rfl (wa_cons (w_int (wa_nil ⟨many, 3, rfl, h1, h4, by decide, by decide, fun t1 ht1 => ?_⟩))))))))))
    refine wa_cons (w_callB' 0 (ok_any T G) hr (by decide) rfl (wa_cons (w_var 3 rfl (wa_cons (w_int (wa_nil ⟨many, 3, rfl, h1, h4, by decide, by decide, fun t2 ht2 => ?_⟩))))))
    refine wa_cons (w_callB' 0 (ok_chain T G) hr (by decide) rfl (wa_cons (w_var 3 rfl (wa_nil ⟨many, rfl, h1, h4, fun t3 ht3 => wa_nil ⟨szl (Nat.le_of_ble_eq_true rfl), wa_nil ⟨[t1.enc, t2.enc, t3.enc], rfl, Nat.zero_lt_succ _, Nat.le_of_ble_eq_true rfl, fun x hx => ?_⟩⟩⟩))))
    simp only [List.mem_cons, List.not_mem_nil, or_false] at hx
    rcases hx with rfl | rfl | rfl
    · exact ⟨t1, ht1.mono (by decide), rfl⟩
    · exact ⟨t2, ht2.mono (by decide), rfl⟩
    · exact ⟨t3, ht3, rfl⟩
  · obtain ⟨t, ht, rfl⟩ := hs
    refine wss_one (ws_ret (w_if (wt_cmp (w_var 2 rfl (w_int (od_lt ⟨_, rfl, ite_dec (fun c => ?_) fun c => ?_⟩))))))
    · refine w_callB' 0 (ok_plant T G) hr (by decide) rfl (wa_cons (w_var 1 rfl (wa_cons (w_subN (w_var 2 rfl ⟨way, rfl, w_int ⟨5, rfl, by omega, wa_nil ⟨many, 4, way - 5, t, rfl, h1, h4, by decide, ht, by omega, fun t ht => ⟨q many t h1 h4 ht, _, rfl, BagLike.bag⟩⟩⟩⟩)))))
    · exact w_var 1 rfl ⟨q many t h1 h4 (ht.mono (by decide)), _, rfl, BagLike.bag⟩
end
end K3
end

section
set_option autoImplicit true
set_option Elab.async false
set_option linter.all false
set_option maxRecDepth 100000
set_option maxHeartbeats 1000000
namespace K3
open PySem PySem.Spec PyProof.Rows L2
theorem range_split {n k : Nat} {pre post : List Nat} (e : List.range n = pre ++ k :: post) : k = pre.length ∧ pre.length < n := by
  have hl := congrArg List.length e
  rw [List.length_range, List.length_append, List.length_cons] at hl
  have hlt : pre.length < n := by omega
  have h1 : (List.range n)[pre.length]? = some k := by
    rw [e, List.getElem?_append_right (Nat.le_refl _), Nat.sub_self]
    rfl
  rw [List.getElem?_range hlt] at h1
  exact ⟨(Option.some.inj h1).symm, hlt⟩
/-- a program over the signs σ -/
def PrOk (σ : List Nat) (p : Pr) : Prop := p.AllS (fun s ps => σ[s]? = some ps.length) ∧ p.full
theorem PrOk.node {σ : List Nat} {s : Nat} {ps : List Pr} (h : σ[s]? = some ps.length) (hp : ∀ p, p ∈ ps → PrOk σ p) : PrOk σ (.node s ps) := by
  refine ⟨?_, ?_⟩
  · rw [Pr.AllS]
    exact ⟨h, Pr.allSs_of fun p m => (hp p m).1⟩
  · rw [Pr.full]
    exact Pr.fulls_of fun p m => (hp p m).2
section
variable {P : Program} {w : World} {K : PySem.W.Frag} {mg : Str → Option Value} {base : Heap}
/-! ### _law_any_program -/
def spAnyP (n : Nat) : Spf := fun ds R => ∃ (many most sz : Nat) (t : Tb), ds = [t.enc, dN sz] ∧ TbOk many most t ∧ most ≤ 6 ∧ 1 ≤ sz ∧ sz ≤ n ∧ sz ≤ 100 ∧ ∀ p, PrOk t.signs p → p.size ≤ sz → R p.enc
theorem sc38 : FnScope ["_law_bag_here", "_law_table_here", "_law_size_here", "_law_fits", "_law_sign", "_law_at", "_law_left", "_law_found", "_law_share", "_law_one"] ["_law_bag_here", "_law_table_here", "_law_size_here"] (defScope (top 38)) := ⟨rfl, rfl, rfl, by decide +kernel, rfl, by decide +kernel, by decide +kernel⟩
theorem ok_anyP (T : Tx K mg) : ∀ n : Nat, FnN P w K mg base (n + 2) "_law_any_program" ["_law_bag_here", "_law_table_here", "_law_size_here"] (spB K (spAnyP n)) := by
  intro n
  induction n with
  | zero => exact go T 0 (fun _ h => by omega)
  | succ n ih => exact go T (n + 1) (fun m h => by
      have e : m = n := by omega
      subst e
      exact ih)
where
  go (T : Tx K mg) (n : Nat) (ih : ∀ m, n = m + 1 → FnN P w K mg base (m + 2) "_law_any_program" ["_law_bag_here", "_law_table_here", "_law_size_here"] (spB K (spAnyP m))) : FnN P w K mg base (n + 2) "_law_any_program" ["_law_bag_here", "_law_table_here", "_law_size_here"] (spB K (spAnyP n)) := by
    obtain ⟨f, fd, F, hmg⟩ := T.top (x := "_law_any_program") (j := 38) 27
    refine fnB_of F hmg sc38 (fun _ _ _ _ _ _ us hl => match us, hl with | [_, _, _], _ => rfl) (fun ds R h => by obtain ⟨_, _, _, _, rfl, _⟩ := h; rfl) fun cdv A outer s H E b ds R hr h => ?_
    obtain ⟨many, most, sz, t, rfl, ht, h6, h1, hn, h100, q⟩ := h
    have hs6 := ht.s.1
    obtain ⟨m, rfl⟩ : ∃ m, n = m + 1 := ⟨n - 1, by omega⟩
    have hg : ∀ k, k ∈ List.range t.signs.length → (t.signs.map dN)[k]? = some (dN (t.signs.getD k 0)) := fun k hk => by
      rw [List.getElem?_map, getD_of (List.mem_range.mp hk) 0]
      rfl
    let fits := (List.range t.signs.length).filter fun k => decide (t.signs.getD k 0 < sz)
    have hf0 : ∀ k, k ∈ fits → k < t.signs.length ∧ t.signs.getD k 0 < sz := fun k hk => by
      obtain ⟨a1, a2⟩ := List.mem_filter.mp hk
      exact ⟨List.mem_range.mp a1, of_decide_eq_true a2⟩
    have hfl : fits.length ≤ 6 := by
      have := List.length_filter_le (fun k => decide (t.signs.getD k 0 < sz)) (List.range t.signs.length)
      rw [List.length_range] at this
      exact Nat.le_trans this (by omega)
    have h0m : 0 ∈ fits := by
      refine List.mem_filter.mpr ⟨List.mem_range.mpr (List.getElem?_eq_some_iff.mp ht.s.2.1).1, decide_eq_true ?_⟩
      rw [List.getD_eq_getElem?_getD, ht.s.2.1]
      exact h1
    refine wss_mid (fun S' => S' = [.bag b, .dat t.enc, .dat (dN sz), .own (fits.map dN), .no, .no, .no, .no, .no, .no]) ?_ fun S' hl hs => ?_
    · refine ws_lcN 3 4 [("_law_sign", 4)] sc38.nd (blkOk_by (N := ["_law_bag_here", "_law_table_here", "_law_size_here", "_law_fits", "_law_sign", "_law_at", "_law_left", "_law_found", "_law_share", "_law_one"]) (sc := defScope (top 38)) (by decide +kernel)) (idle1 rfl) ?_
      refine wi_rangeN T (w_len T (w_ix (w_var 1 rfl (w_int (xd_tup (i := 1) rfl ⟨_, .inr rfl, t.signs.length, by rw [List.length_map], by omega, ?_⟩)))))
      refine lcq_filter (List.range t.signs.length) dN (fun k => decide (t.signs.getD k 0 < sz)) dN (slt (by rw [List.length_range]; omega)) (fun k hk => ⟨_, rfl, fun s H C cl fp => wts_one (wt_cmp (w_ix (w_ix (w_var 1 rfl (w_int (xd_tup (i := 1) rfl (w_var 4 rfl (xd_tup (hg k hk) (w_var 2 rfl (od_lt ⟨_, rfl, ?_⟩)))))))))), fun _ s H C cl fp => w_var 4 rfl rfl⟩) rfl
      rw [decide_eq_decide]
      exact Int.ofNat_lt
    subst hs
    refine wss_frz 3 rfl ?_
    refine wss_mid (fun S' => ∃ s, s ∈ fits ∧ S' = [.bag b, .dat t.enc, .dat (dN sz), .dat (.list (fits.map dN)), .dat (dN s), .no, .no, .no, .no, .no]) ?_ fun S' hl hs => ?_
    · refine ws_set 4 sc38.nd (w_callB' 0 (ok_some T) hr (Nat.le_add_left _ _) rfl (wa_cons (w_if (wt_cmp (w_callB' 0 (ok_take T) hr (by omega) rfl (wa_cons (w_int (wa_nil ⟨5, rfl, by decide, by decide, fun v hv => w_int (od_gt ⟨_, rfl, ite_dec (fun c => ?_) fun c => ?_⟩)⟩))))))))
      · refine w_var 3 rfl (wa_nil ⟨fits.map dN, rfl, by rw [List.length_map]; exact List.length_pos_of_mem h0m, by rw [List.length_map]; omega, fun x hx => ?_⟩)
        obtain ⟨s, hs, rfl⟩ := List.mem_map.mp hx
        exact ⟨s, hs, rfl⟩
      · refine w_lcN 9 [("_law_one", 9)] sc38.nd (blkOk_by (N := ["_law_bag_here", "_law_table_here", "_law_size_here", "_law_fits", "_law_sign", "_law_at", "_law_left", "_law_found", "_law_share", "_law_one"]) (sc := defScope (top 38)) (by decide +kernel)) (idle1 rfl) ?_
        refine wi_list (w_var 3 rfl ⟨_, rfl, ?_⟩)
        refine lcq_filter fits dN (fun k => decide (t.signs.getD k 0 = 0)) dN (slt (by omega)) (fun k hk => ⟨_, rfl, fun s H C cl fp => wts_one (wt_cmp (w_ix (w_ix (w_var 1 rfl (w_int (xd_tup (i := 1) rfl (w_var 9 rfl (xd_tup (hg k (List.mem_filter.mp hk).1) (w_int (od_eq ⟨_, rfl, ?_⟩)))))))))), fun _ s H C cl fp => w_var 9 rfl rfl⟩) (wa_nil ⟨_, rfl, ?_, ?_, fun x hx => ?_⟩)
        · rw [decide_eq_decide]
          exact ⟨fun h => Int.ofNat.inj h, fun h => by rw [h]; rfl⟩
        · rw [List.length_map]
          refine List.length_pos_of_mem (a := 0) (List.mem_filter.mpr ⟨h0m, decide_eq_true ?_⟩)
          rw [List.getD_eq_getElem?_getD, ht.s.2.1]
          rfl
        · rw [List.length_map]
          exact Nat.le_trans (List.length_filter_le _ _) (by omega)
        · obtain ⟨s, hs, rfl⟩ := List.mem_map.mp hx
          exact ⟨s, (List.mem_filter.mp hs).1, rfl⟩
    obtain ⟨sg, hsg, rfl⟩ := hs
    obtain ⟨hsl, hsz⟩ := hf0 sg hsg
    obtain ⟨ar, har⟩ : ∃ ar, ar = t.signs.getD sg 0 := ⟨_, rfl⟩
    rw [← har] at hsz
    have har2 : t.signs[sg]? = some ar := by rw [har]; exact getD_of hsl 0
    have har3 : ar ≤ 2 := ht.s.len har2
    have hga : (t.signs.map dN)[sg]? = some (dN ar) := by rw [List.getElem?_map, har2]; rfl
    refine wss_cons (ws_par2 6 7 sc38.nd (wva_cons (wv_dat (w_subN (w_var 2 rfl ⟨sz, rfl, w_int ⟨1, rfl, h1, wva_cons (wv_lst (wa_nil ⟨szl (Nat.zero_le _), wva_nil ⟨rfl, fun _ => ?_⟩⟩))⟩⟩)))))
    refine wss_cons (ws_forN 5 sc38.nd (wi_rangeN T (w_ix (w_ix (w_var 1 rfl (w_int (xd_tup (i := 1) rfl (w_var 4 rfl (xd_tup hga ⟨ar, rfl, by omega, ?_⟩)))))))))
    refine forQ_map (List.range ar) dN (fun pre S' => ∃ (ps : List Pr) (l : Nat) (a c : Sv K), ps.length = pre.length ∧ (∀ p, p ∈ ps → PrOk t.signs p) ∧ Pr.sizes ps + l ≤ sz - 1 ∧ (pre.length < ar → ar - pre.length ≤ l) ∧ S' = [.bag b, .dat t.enc, .dat (dN sz), .dat (.list (fits.map dN)), .dat (dN sg), a, .dat (dN l), .own (ps.map Pr.enc), c, .no]) ⟨[], sz - 1, .no, .no, rfl, fun p hp => (nomatch hp), by rw [Pr.sizes, Nat.zero_add]; exact Nat.le_refl _, fun _ => by rw [List.length_nil]; omega, rfl⟩ (fun pre k post S' e hl hs => ?_) (fun S' hl hs => fun _ => ?_)
    · obtain ⟨ps, l, a, c, hpl, hps, hsum, hleft, rfl⟩ := hs
      have hk : k < ar := List.mem_range.mp (by rw [e]; simp)
      have hkp : k = pre.length := (range_split e).1
      have hl2 := hleft (by omega)
      refine ⟨_, rfl, wss_mid (fun S' => ∃ sh : Nat, 1 ≤ sh ∧ sh ≤ l ∧ (k + 1 < ar → sh < l) ∧ S' = [.bag b, .dat t.enc, .dat (dN sz), .dat (.list (fits.map dN)), .dat (dN sg), .dat (dN k), .dat (dN l), .own (ps.map Pr.enc), .dat (dN sh), .no]) ?_ fun S' hl hs => ?_⟩
      · refine ws_set 8 sc38.nd (w_if (wt_cmp (w_var 5 rfl (w_subN (w_ix (w_ix (w_var 1 rfl (w_int (xd_tup (i := 1) rfl (w_var 4 rfl (xd_tup hga ⟨ar, rfl, w_int ⟨1, rfl, by omega, od_eq ⟨_, rfl, ite_dec (fun c => ?_) fun c => ?_⟩⟩⟩)))))))))))
        · exact w_var 6 rfl ⟨l, by omega, Nat.le_refl _, fun h => by omega, rfl⟩
        · exact w_addN (w_int ⟨1, rfl, w_callB' 0 (ok_take T) hr (by omega) rfl (wa_cons (w_subN (w_var 6 rfl ⟨l, rfl, w_int ⟨1, rfl, by omega, wa_nil ⟨l - 1, rfl, by omega, by omega, fun v hv => ⟨v, rfl, 1 + v, by omega, by omega, fun _ => by omega, rfl⟩⟩⟩⟩)))⟩)
      · obtain ⟨sh, g1, g2, g3, rfl⟩ := hs
        refine wss_cons (ws_append 7 rfl (by rw [List.length_map]; omega) (w_callB' 0 (ih m rfl) hr (Nat.le_refl _) rfl (wa_cons (w_var 1 rfl (wa_cons (w_var 8 rfl (wa_nil ⟨many, most, sh, t, rfl, ht, h6, g1, by omega, by omega, fun p hp hps2 => fun _ => ?_⟩)))))))
        refine wss_one (ws_aug 6 ip_sub sc38.nd (n := ((l : Nat) : Int)) rfl (w_var 8 rfl ⟨_, rfl, ps ++ [p], l - sh, .dat (dN k), .dat (dN sh), by rw [List.length_append, List.length_append, hpl]; rfl, fun p' hp' => ?_, ?_, fun hlt => ?_, ?_⟩))
        · rcases List.mem_append.mp hp' with h | h
          · exact hps p' h
          · rw [List.mem_singleton] at h
            rw [h]
            exact hp
        · rw [Pr.sizes_append, Pr.sizes, Pr.sizes]
          omega
        · rw [List.length_append, List.length_singleton] at hlt ⊢
          have := g3 (by omega)
          omega
        · have e1 : ((l : Int) - (sh : Int)) = ((l - sh : Nat) : Int) := by omega
          rw [e1, List.map_append]
          rfl
    · obtain ⟨ps, l, a, c, hpl, hps, hsum, hleft, rfl⟩ := hs
      rw [List.length_range] at hpl
      refine wss_frz 7 rfl (wss_one (ws_ret (w_op (w_tup (wa_cons (w_var 4 rfl (wa_nil ⟨szl (Nat.le_of_ble_eq_true rfl), w_tuple T (w_var 7 rfl ⟨_, rfl, od_catT ?_ ⟨?_, _, rfl, BagLike.bag⟩⟩)⟩)))))))
      · rw [List.length_map, List.length_singleton]
        exact szl (by omega)
      · have hp := PrOk.node (σ := t.signs) (s := sg) (ps := ps) (by rw [hpl]; exact har2) hps
        have := q _ hp (by rw [Pr.size]; omega)
        rw [Pr.enc_node] at this
        exact this
end
end K3
end

section
set_option autoImplicit true
set_option Elab.async false
set_option linter.all false
set_option maxRecDepth 100000
set_option maxHeartbeats 1000000
/-! Counts of readings, plainly. -/
namespace K3
open PySem PySem.Spec PyProof.Rows L2
/-- the entries of a sign for a kind -/
def Tb.at (t : Tb) (s k : Nat) : List En := t.ents.filter fun e => decide (e.s = s) && decide (e.k = k)
mutual
/-- how many readings there are with the kind k on top -/
def cnt (t : Tb) : Pr → Nat → Nat
  | .hole, _ => 1
  | .node s ps, k => ((t.at s k).map fun e => cnts t ps e.ps).sum
def cnts (t : Tb) : List Pr → List Nat → Nat
  | p :: ps, k :: ks => cnt t p k * cnts t ps ks
  | _, _ => 1
end
mutual
def tree (t : Tb) : Pr → D
  | .hole => .tuple [.list (List.replicate t.many (dN 1)), .list []]
  | .node s ps => .tuple [.list ((List.range t.many).map fun k => dN (cnt t (.node s ps) k)), .list (trees t ps)]
def trees (t : Tb) : List Pr → List D
  | [] => []
  | p :: ps => tree t p :: trees t ps
end
theorem trees_eq (t : Tb) : ∀ ps : List Pr, trees t ps = ps.map (tree t)
  | [] => rfl
  | p :: ps => by rw [trees, trees_eq t ps, List.map_cons]
theorem tree_head (t : Tb) (p : Pr) (h : p.full) : ∃ d, tree t p = .tuple [.list ((List.range t.many).map fun k => dN (cnt t p k)), d] := by
  cases p with
  | hole => rw [Pr.full] at h; exact h.elim
  | node s ps => exact ⟨_, by rw [tree]⟩
theorem sum_le_mul {α : Type} (L : List α) (f : α → Nat) (b : Nat) (h : ∀ x, x ∈ L → f x ≤ b) : (L.map f).sum ≤ L.length * b := by
  induction L with
  | nil => simp
  | cons x L ih =>
    rw [List.map_cons, List.sum_cons, List.length_cons, Nat.succ_mul]
    have h1 := h x List.mem_cons_self
    have h2 := ih fun y hy => h y (List.mem_cons_of_mem _ hy)
    omega
mutual
theorem cnt_le (t : Tb) (h : t.ents.length ≤ 24) : ∀ (p : Pr) (k : Nat), cnt t p k ≤ 24 ^ p.size
  | .hole, k => by
    rw [cnt, Pr.size]
    decide
  | .node s ps, k => by
    rw [cnt, Pr.size]
    have h1 := sum_le_mul (t.at s k) (fun e => cnts t ps e.ps) (24 ^ Pr.sizes ps) fun e _ => cnts_le t h ps e.ps
    have h2 : (t.at s k).length ≤ 24 := Nat.le_trans (List.length_filter_le _ _) h
    refine Nat.le_trans h1 ?_
    rw [Nat.pow_add, Nat.pow_one]
    exact Nat.mul_le_mul_right _ h2
theorem cnts_le (t : Tb) (h : t.ents.length ≤ 24) : ∀ (ps : List Pr) (ks : List Nat), cnts t ps ks ≤ 24 ^ Pr.sizes ps
  | [], ks => by
    rw [cnts, Pr.sizes]
    · exact Nat.le_refl _
    · intro p ps k ks h
      cases h
  | p :: ps, [] => by
    rw [cnts]
    · exact Nat.one_le_pow _ _ (by decide)
    · intro p ps k ks _ h
      cases h
  | p :: ps, k :: ks => by
    rw [cnts, Pr.sizes, Nat.pow_add]
    exact Nat.mul_le_mul (cnt_le t h p k) (cnts_le t h ps ks)
end
end K3
end

section
set_option autoImplicit true
set_option Elab.async false
set_option linter.all false
set_option maxRecDepth 100000
set_option maxHeartbeats 1000000
namespace K3
open PySem PySem.Spec PyProof.Rows L2
theorem nodup_len : ∀ (L D : List Nat), L.Nodup → (∀ x, x ∈ L → x ∈ D) → L.length ≤ D.length
  | [], _, _, _ => Nat.zero_le _
  | a :: L, D, nd, h => by
    rw [List.nodup_cons] at nd
    have ha := h a List.mem_cons_self
    have h1 := nodup_len L (D.erase a) nd.2 fun x hx => by
      have hne : x ≠ a := fun e => nd.1 (e ▸ hx)
      exact (List.mem_erase_of_ne hne).mpr (h x (List.mem_cons_of_mem _ hx))
    have h2 := List.length_erase_of_mem ha
    have h3 := List.length_pos_of_mem ha
    rw [List.length_cons]
    omega
theorem nodup_lt_len (n : Nat) (L : List Nat) (nd : L.Nodup) (h : ∀ x, x ∈ L → x < n) : L.length ≤ n := by
  have h1 := nodup_len L (List.range n) nd fun x hx => List.mem_range.mpr (h x hx)
  rw [List.length_range] at h1
  exact h1
theorem lookM_put {α : Type} {M : List (Nat × α)} {k j : Nat} {a : α} : lookM (putM M k a) j = if j = k then some a else lookM M j := by
  unfold putM
  split
  · rename_i c
    have key : ∀ M : List (Nat × α), lookM (M.map fun x => if x.1 = k then (x.1, a) else x) j = if j = k then (if k ∈ M.map (·.1) then some a else none) else lookM M j := by
      intro M
      induction M with
      | nil => simp [lookM]
      | cons x M ih =>
        unfold lookM at ih ⊢
        rw [List.map_cons, List.find?_cons, List.find?_cons]
        by_cases e : x.1 = k
        · rw [if_pos e]
          by_cases ej : j = k
          · rw [if_pos ej, if_pos (by rw [List.map_cons, e]; exact List.mem_cons_self)]
            rw [decide_eq_true (show ((x.1, a) : Nat × α).1 = j by rw [ej]; exact e)]
            rfl
          · rw [if_neg ej, decide_eq_false (show ¬ ((x.1, a) : Nat × α).1 = j from fun h => ej (h.symm.trans e))]
            rw [if_neg ej] at ih
            exact ih
        · rw [if_neg e]
          by_cases ej : j = k
          · rw [if_pos ej, decide_eq_false (show ¬ x.1 = j from fun h => e (h.trans ej))]
            rw [if_pos ej] at ih
            show Option.map _ (List.find? _ (List.map _ M)) = _
            rw [ih]
            have : (k ∈ List.map (·.1) (x :: M)) ↔ k ∈ M.map (·.1) := by
              rw [List.map_cons, List.mem_cons]
              exact ⟨fun h => h.resolve_left fun h => e h.symm, .inr⟩
            by_cases cc : k ∈ M.map (·.1)
            · rw [if_pos cc, if_pos (this.mpr cc)]
            · rw [if_neg cc, if_neg (fun h => cc (this.mp h))]
          · rw [if_neg ej]
            rw [if_neg ej] at ih
            by_cases e2 : x.1 = j
            · rw [decide_eq_true e2]
            · rw [decide_eq_false e2]
              exact ih
    rw [key]
    by_cases ej : j = k
    · rw [if_pos ej, if_pos ej, if_pos]
      obtain ⟨x, hx, e⟩ := List.any_eq_true.mp c
      exact List.mem_map.mpr ⟨x, hx, of_decide_eq_true e⟩
    · rw [if_neg ej, if_neg ej]
  · rename_i c
    have hk : k ∉ M.map (·.1) := fun h => by
      obtain ⟨x, hx, e⟩ := List.mem_map.mp h
      exact c (List.any_eq_true.mpr ⟨x, hx, decide_eq_true e⟩)
    have hn : lookM M k = none := by
      have := lookM_isSome M k
      rw [decide_eq_false hk] at this
      cases e : lookM M k with
      | none => rfl
      | some a =>
        rw [e] at this
        cases this
    unfold lookM at hn ⊢
    rw [List.find?_append]
    by_cases ej : j = k
    · subst ej
      rw [if_pos rfl]
      cases e : M.find? fun x => decide (x.1 = j) with
      | none => simp
      | some y =>
        rw [e] at hn
        cases hn
    · rw [if_neg ej]
      cases e : M.find? fun x => decide (x.1 = j) with
      | none =>
        simp
        exact fun h => ej h.symm
      | some y => rfl
structure Mi (many : Nat) (t : Tb) (M : List (Nat × Pr)) : Prop where
  nd : (M.map (·.1)).Nodup
  lt : ∀ x, x ∈ M → x.1 < many
  ok : ∀ x, x ∈ M → PrOk t.signs x.2
  sz : ∀ x, x ∈ M → x.2.size + 1 ≤ 2 ^ M.length
  ent : ∀ x, x ∈ M → ∃ e, e ∈ t.ents ∧ e.k = x.1 ∧ ∀ k, k ∈ e.ps → k ∈ M.map (·.1)
theorem Mi.len {many : Nat} {t : Tb} {M : List (Nat × Pr)} (h : Mi many t M) : M.length ≤ many := by
  have := nodup_lt_len many (M.map (·.1)) h.nd fun x hx => by
    obtain ⟨y, hy, rfl⟩ := List.mem_map.mp hx
    exact h.lt y hy
  rw [List.length_map] at this
  exact this
theorem Mi.sz15 {many : Nat} {t : Tb} {M : List (Nat × Pr)} (h : Mi many t M) (h4 : many ≤ 4) {x : Nat × Pr} (hx : x ∈ M) : x.2.size ≤ 15 := by
  have h1 := h.sz x hx
  have h2 : 2 ^ M.length ≤ 2 ^ 4 := Nat.pow_le_pow_right (by decide) (Nat.le_trans h.len h4)
  omega
/-- what is left to gain -/
def phi (many : Nat) (M : List (Nat × Pr)) : Nat := ((List.range many).map fun k => match lookM M k with
  | some p => p.size
  | none => 16).sum
theorem sum_lt {L : List Nat} {f g : Nat → Nat} (h : ∀ x, x ∈ L → g x ≤ f x) {k : Nat} (hk : k ∈ L) (hl : g k < f k) : (L.map g).sum < (L.map f).sum := by
  induction L with
  | nil => cases hk
  | cons a L ih =>
    rw [List.map_cons, List.map_cons, List.sum_cons, List.sum_cons]
    have h0 := h a List.mem_cons_self
    rcases List.mem_cons.mp hk with e | hk
    · subst e
      have : ∀ L : List Nat, (∀ x, x ∈ L → g x ≤ f x) → (L.map g).sum ≤ (L.map f).sum := by
        intro L h
        induction L with
        | nil => exact Nat.le_refl _
        | cons b L ih =>
          rw [List.map_cons, List.map_cons, List.sum_cons, List.sum_cons]
          have := h b List.mem_cons_self
          have := ih fun x hx => h x (List.mem_cons_of_mem _ hx)
          omega
      have := this L fun x hx => h x (List.mem_cons_of_mem _ hx)
      omega
    · have := ih (fun x hx => h x (List.mem_cons_of_mem _ hx)) hk
      omega
theorem phi_lt {many : Nat} {M : List (Nat × Pr)} {k : Nat} {p : Pr} (hk : k < many) (h : (match lookM M k with | some q => p.size < q.size | none => p.size < 16)) : phi many (putM M k p) < phi many M := by
  unfold phi
  refine sum_lt (fun j _ => ?_) (List.mem_range.mpr hk) ?_
  · rw [lookM_put]
    by_cases e : j = k
    · subst e
      rw [if_pos rfl]
      cases e2 : lookM M j with
      | none => rw [e2] at h; exact Nat.le_of_lt h
      | some q => rw [e2] at h; exact Nat.le_of_lt h
    · rw [if_neg e]
      exact Nat.le_refl _
  · rw [lookM_put, if_pos rfl]
    cases e2 : lookM M k with
    | none => rw [e2] at h; exact h
    | some q => rw [e2] at h; exact h
/-- an entry all of whose parts are made -/
theorem Mi.put {many most : Nat} {t : Tb} {M : List (Nat × Pr)} (h : Mi many t M) (ht : TbOk many most t) (h4 : many ≤ 4) {e : En} (he : e ∈ t.ents) (hp : ∀ k, k ∈ e.ps → k ∈ M.map (·.1)) {ps : List Pr} (hl : ps.length = e.ps.length) (hps : ∀ p, p ∈ ps → ∃ k, (k, p) ∈ M)
    (hb : (match lookM M e.k with | some q => (Pr.node e.s ps).size < q.size | none => True)) : Mi many t (putM M e.k (.node e.s ps)) ∧ phi many (putM M e.k (.node e.s ps)) < phi many M := by
  have hE := ht.e e he
  have hr := ht.m
  have har := ht.s.len hE.1
  have hk2 : e.ps.length ≤ 2 := har
  have hsz : ∀ p, p ∈ ps → p.size + 1 ≤ 2 ^ M.length := fun p hp => by
    obtain ⟨k, hk⟩ := hps p hp
    exact h.sz _ hk
  have hsum : (Pr.node e.s ps).size + 1 ≤ 2 * 2 ^ M.length := by
    rw [Pr.size]
    have h1 : 1 ≤ 2 ^ M.length := Nat.one_le_two_pow
    match ps, hl with
    | [], _ => rw [Pr.sizes]; omega
    | [a], _ =>
      have := hsz a (by simp)
      rw [Pr.sizes, Pr.sizes]
      omega
    | [a, b], _ =>
      have := hsz a (by simp)
      have := hsz b (by simp)
      rw [Pr.sizes, Pr.sizes, Pr.sizes]
      omega
    | _ :: _ :: _ :: _, hl => simp at hl; omega
  have hnok : PrOk t.signs (.node e.s ps) := PrOk.node (by rw [hl]; exact hE.1) fun p hp => by
    obtain ⟨k, hk⟩ := hps p hp
    exact h.ok _ hk
  have hkm : e.k < many := by
    have := hE.2.2
    exact this
  have keyle : ∀ j, j ∈ M.map (·.1) → j ∈ (putM M e.k (.node e.s ps)).map (·.1) := fun j hj => by
    rw [putM_keys]
    split
    · exact hj
    · exact List.mem_append_left _ hj
  have lenle : M.length ≤ (putM M e.k (.node e.s ps)).length := by
    have h1 := congrArg List.length (putM_keys (M := M) (k := e.k) (a := Pr.node e.s ps))
    rw [List.length_map] at h1
    rw [h1]
    split
    · rw [List.length_map]; exact Nat.le_refl _
    · rw [List.length_append, List.length_map]; omega
  refine ⟨⟨putM_nodup h.nd, fun x hx => ?_, fun x hx => ?_, fun x hx => ?_, fun x hx => ?_⟩, ?_⟩
  · rcases putM_mem hx with rfl | ⟨hx, _⟩
    · exact hkm
    · exact h.lt x hx
  · rcases putM_mem hx with rfl | ⟨hx, _⟩
    · exact hnok
    · exact h.ok x hx
  · have hpw : ∀ x, x ∈ M → x.2.size + 1 ≤ 2 ^ (putM M e.k (.node e.s ps)).length := fun x hx => Nat.le_trans (h.sz x hx) (Nat.pow_le_pow_right (by decide) lenle)
    rcases putM_mem hx with rfl | ⟨hx, _⟩
    · cases e2 : lookM M e.k with
      | some q =>
        rw [e2] at hb
        have hq := hpw _ (lookM_mem e2)
        have hb' : (Pr.node e.s ps).size < q.size := hb
        have hq' : q.size + 1 ≤ 2 ^ (putM M e.k (.node e.s ps)).length := hq
        show (Pr.node e.s ps).size + 1 ≤ _
        omega
      | none =>
        have hnk : e.k ∉ M.map (·.1) := fun c => by
          obtain ⟨a, ha⟩ := lookM_of c
          rw [e2] at ha
          cases ha
        have h1 := congrArg List.length (putM_keys (M := M) (k := e.k) (a := Pr.node e.s ps))
        rw [if_neg hnk, List.length_map, List.length_append, List.length_map, List.length_singleton] at h1
        rw [h1, Nat.pow_succ, Nat.mul_comm]
        exact hsum
    · exact hpw x hx
  · rcases putM_mem hx with rfl | ⟨hx, _⟩
    · exact ⟨e, he, rfl, fun k hk => keyle k (hp k hk)⟩
    · obtain ⟨e', a1, a2, a3⟩ := h.ent x hx
      exact ⟨e', a1, a2, fun k hk => keyle k (a3 k hk)⟩
  · refine phi_lt hkm ?_
    cases e2 : lookM M e.k with
    | some q => rw [e2] at hb; exact hb
    | none =>
      have hnk : e.k ∉ M.map (·.1) := fun c => by
        obtain ⟨a, ha⟩ := lookM_of c
        rw [e2] at ha
        cases ha
      have h1 : M.length + 1 ≤ many := by
        have h2 := congrArg List.length (putM_keys (M := M) (k := e.k) (a := Pr.node e.s ps))
        rw [if_neg hnk, List.length_map, List.length_append, List.length_map, List.length_singleton] at h2
        have h3 := nodup_lt_len many ((putM M e.k (.node e.s ps)).map (·.1)) (putM_nodup h.nd) fun x hx => by
          obtain ⟨y, hy, rfl⟩ := List.mem_map.mp hx
          rcases putM_mem hy with rfl | ⟨hy, _⟩
          · exact hkm
          · exact h.lt y hy
        rw [List.length_map, h2] at h3
        exact h3
      have h5 : 2 ^ M.length ≤ 2 ^ 3 := Nat.pow_le_pow_right (by decide) (by omega)
      show (Pr.node e.s ps).size < 16
      omega
end K3
end

section
set_option autoImplicit true
set_option Elab.async false
set_option linter.all false
set_option maxRecDepth 100000
set_option maxHeartbeats 1000000
namespace K3
open PySem PySem.Spec PyProof.Rows L2
/-- plain numbers in order -/
def nsort (L : List Nat) : List Nat := L.mergeSort fun a b => decide (a ≤ b)
theorem nsort_perm (L : List Nat) : (nsort L).Perm L := List.mergeSort_perm L _
theorem nsort_sorted (L : List Nat) : (nsort L).Pairwise (· ≤ ·) := by
  have h := List.pairwise_mergeSort (le := fun a b : Nat => decide (a ≤ b)) (fun a b c h1 h2 => decide_eq_true (Nat.le_trans (of_decide_eq_true h1) (of_decide_eq_true h2))) (fun a b => by
    rcases Nat.le_total a b with h | h
    · rw [decide_eq_true h]; rfl
    · rw [decide_eq_true h, Bool.or_true]) L
  exact h.imp fun h => of_decide_eq_true h
theorem srt_nats (L : List Nat) : srt PyData.int (L.map fun (n : Nat) => ((n : Nat) : Int)) = (nsort L).map fun (n : Nat) => ((n : Nat) : Int) := by
  unfold srt nsort
  have e := PySem.W.dataLe_int (β := Int) (fun b => b)
  have e' : PySem.W.dataLe false PyData.int = fun a b : Int => decide (a ≤ b) := e
  rw [e']
  exact (List.map_mergeSort (r := fun a b : Nat => decide (a ≤ b)) (s := fun a b : Int => decide (a ≤ b)) (f := fun (n : Nat) => ((n : Nat) : Int)) fun a _ b _ => by
    rw [decide_eq_decide]
    exact Int.ofNat_le.symm).symm
theorem eqv_nil (ns : List Nat) : PyData.eqv (.list (ns.map dN)) (.list []) = decide (ns = []) := by
  cases ns with
  | nil => rfl
  | cons n ns => rfl
theorem lay_ints : ∀ ns : List Nat, PyData.canLayAll0 (ns.map dN) = true
  | [] => rfl
  | n :: ns => by
    show (PyData.canLay0 (dN n) && PyData.canLayAll0 (ns.map dN)) = true
    rw [lay_ints ns]
    rfl
theorem shaped_lN (ns : List Nat) : SeqAt.shaped (.list (ns.map dN)) = true := shaped_of (lay_ints ns) (by rw [PyData.depth, depth_ints]; decide)
theorem shaped_nil : SeqAt.shaped (.list []) = true := rfl
section
variable {P : Program} {w : World} {K : PySem.W.Frag} {mg : Str → Option Value} {base : Heap}
/-! ### _law_made -/
def spMade : Spf := fun ds R => ∃ (many most : Nat) (t : Tb), ds = [t.enc] ∧ TbOk many most t ∧ many ≤ 4 ∧ ∀ M : List (Nat × Pr), Mi many t M → R (dicD (encA Pr.enc M))
theorem sc33 : FnScope ["_law_table_here", "_law_sizes", "_law_found", "_law_is_more", "_law_sign", "_law_parts", "_law_kind", "_law_size_here", "_law_part"] ["_law_table_here"] (defScope (top 33)) := ⟨rfl, rfl, rfl, by decide +kernel, rfl, by decide +kernel, by decide +kernel⟩
theorem ok_made (T : Tx K mg) : FnN P w K mg base 1 "_law_made" ["_law_table_here"] (spD K spMade) := by
  obtain ⟨f, fd, F, hmg⟩ := T.top (x := "_law_made") (j := 33) 22
  refine fnD_of F hmg sc33 (fun _ _ _ _ _ _ us hl => match us, hl with | [_], _ => rfl) (fun ds R h => by obtain ⟨_, _, _, rfl, _⟩ := h; rfl) fun cdv A outer s H E ds R hr h => ?_
  obtain ⟨many, most, t, rfl, ht, h4, q⟩ := h
  have hu : (A.deeper (envOfC "_law_made" (defScope (top 33)) s.heap.objs.size f cdv)).units + 1 < cLine := L2.hu_of hr.1
  refine wss_mid (fun S' => S' = [.dat t.enc, .odic (encA (fun p : Pr => dN p.size) []), .odic (encA Pr.enc []), .dat (.bool true), .no, .no, .no, .no, .no]) ?_ fun S' hl hs => ?_
  · exact ws_tup3 1 2 3 sc33.nd (wva_cons (wv_dnew (wva_cons (wv_dnew (wva_cons (wv_dat (w_bool (wva_nil ⟨rfl, rfl⟩))))))))
  subst hs
  refine wss_mid (fun S' => ∃ (M : List (Nat × Pr)) (bb : Bool) (a c d e f : Sv K), Mi many t M ∧ Fr c ∧ Fr f ∧ Fr e ∧ Fr d ∧ Fr a ∧ S' = [.dat t.enc, .odic (encA (fun p : Pr => dN p.size) M), .odic (encA Pr.enc M), .dat (.bool bb), a, c, d, e, f]) ?_ fun S' hl hs => ?_
  · refine ws_while PassesOwn.never (fun k S' => ∃ (M : List (Nat × Pr)) (bb : Bool) (a c d e f : Sv K), Mi many t M ∧ k = 2 * phi many M + (if bb = true then 1 else 0) ∧ Fr c ∧ Fr f ∧ Fr e ∧ Fr d ∧ Fr a ∧ S' = [.dat t.enc, .odic (encA (fun p : Pr => dN p.size) M), .odic (encA Pr.enc M), .dat (.bool bb), a, c, d, e, f]) _ ⟨[], true, .no, .no, .no, .no, .no, ⟨List.nodup_nil, fun x h => (nomatch h), fun x h => (nomatch h), fun x h => (nomatch h), fun x h => (nomatch h)⟩, rfl, .no, .no, .no, .no, .no, rfl⟩ fun k S' hl hs => ?_
    obtain ⟨M0, bb, a, c, d, e, f, hM, rfl, fc, ff, fe, fd, fa, rfl⟩ := hs
    refine wt_val (w_var 3 rfl ⟨bb, rfl, ite_b (fun hb => ?_) fun hb => ⟨M0, bb, a, c, d, e, f, hM, fc, ff, fe, fd, fa, rfl⟩⟩)
    rw [if_pos hb]
    refine wss_cons (ws_set 3 sc33.nd (w_bool fun _ => ?_))
    refine wss_one (ws_forT3 4 5 6 sc33.nd (wi_tup (w_ix (w_var 0 rfl (w_int (xd_tup (i := 2) rfl ⟨_, rfl, ?_⟩)))) (p := true)))
    refine forQ_map t.ents En.enc (fun pre S' => ∃ (M : List (Nat × Pr)) (b2 : Bool) (a c d e f : Sv K), Mi many t M ∧ (phi many M ≤ phi many M0 ∧ (b2 = true → phi many M < phi many M0)) ∧ Fr c ∧ Fr f ∧ Fr e ∧ Fr d ∧ Fr a ∧ S' = [.dat t.enc, .odic (encA (fun p : Pr => dN p.size) M), .odic (encA Pr.enc M), .dat (.bool b2), a, c, d, e, f]) ⟨M0, false, a, c, d, e, f, hM, ⟨Nat.le_refl _, fun h => (nomatch h)⟩, fc, ff, fe, fd, fa, rfl⟩ (fun pre en post S' ee hl hs => ?_) (fun S' hl hs => ?_)
    · obtain ⟨M, b2, a, c, d, e, f, hM, hph, fc, ff, fe, fd, fa, rfl⟩ := hs
      have hen : en ∈ t.ents := by rw [ee]; simp
      have har := ht.s.len (ht.e en hen).1
      have hlk : ∀ k, lookD (encA (fun p : Pr => dN p.size) M) (k : Nat) = (lookM M k).map fun p : Pr => dN p.size := fun k => lookD_encA M k
      have hlk2 : ∀ k, lookD (encA Pr.enc M) (k : Nat) = (lookM M k).map Pr.enc := fun k => lookD_encA M k
      have hML : M.length < 100000 := by have := hM.len; omega
      refine ⟨_, ⟨[dN en.s, tN en.ps, dN en.k], rfl, rfl, rfl⟩, wss_one (ws_if (wt_cmp ?_))⟩
      refine w_lcN 8 [("_law_part", 8)] sc33.nd (blkOk_by (N := ["_law_table_here", "_law_sizes", "_law_found", "_law_is_more", "_law_sign", "_law_parts", "_law_kind", "_law_size_here", "_law_part"]) (sc := defScope (top 33)) (by decide +kernel)) (idle1F rfl ff) ?_
      refine wi_tup (w_var 5 rfl ⟨_, rfl, ?_⟩)
      refine lcq_filter en.ps dN (fun k => !(lookM M k).isSome) dN (slt (by omega)) (fun k hk => ⟨_, rfl, fun s H C cl fp => wts_one (wt_notinO 1 hu rfl (w_var 8 rfl ⟨_, rfl, ?_⟩)), fun _ s H C cl fp => w_var 8 rfl rfl⟩) (w_lst (wa_nil ⟨szl (Nat.zero_le _), od_eqD hr.1.units ?_ rfl ?_ rfl ⟨_, rfl, ?_⟩⟩))
      · rw [hlk]
        cases lookM M k <;> rfl
      · exact nodict_ints _
      · exact shaped_lN _
      · rw [eqv_nil]
        refine ite_dec (fun hc => ?_) fun hc => wss_nil ⟨M, b2, _, _, _, e, f, hM, hph, .dat, ff, fe, .dat, .dat, rfl⟩
        have hmk : ∀ k, k ∈ en.ps → k ∈ M.map (·.1) := fun k hk => by
          have h1 := List.filter_eq_nil_iff.mp hc k hk
          rw [lookM_isSome] at h1
          simp only [Bool.not_eq_true', decide_eq_false_iff_not, Decidable.not_not] at h1
          exact h1
        obtain ⟨ps, hpl, hps⟩ : ∃ ps : List Pr, ps.length = en.ps.length ∧ ∀ (i k : Nat), en.ps[i]? = some k → ∃ p, ps[i]? = some p ∧ lookM M k = some p := by
          refine ⟨en.ps.map fun k => (lookM M k).getD .hole, by rw [List.length_map], fun i k hi => ?_⟩
          obtain ⟨p, hp⟩ := lookM_of (hmk k (List.mem_of_getElem? hi))
          exact ⟨p, by rw [List.getElem?_map, hi]; show some ((lookM M k).getD .hole) = _; rw [hp]; rfl, hp⟩
        have hmap : ∀ g : Pr → D, (en.ps.map fun k => ((lookM M k).map g).getD .none) = ps.map g := fun g => by
          refine List.ext_getElem? fun i => ?_
          rw [List.getElem?_map, List.getElem?_map]
          cases e2 : en.ps[i]? with
          | none =>
            have : ps[i]? = none := List.getElem?_eq_none_iff.mpr (by rw [hpl]; exact List.getElem?_eq_none_iff.mp e2)
            rw [this]
            rfl
          | some k =>
            obtain ⟨p, hp1, hp2⟩ := hps i k e2
            rw [hp1]
            show some (((lookM M k).map g).getD .none) = _
            rw [hp2]
            rfl
        have hpm : ∀ p, p ∈ ps → ∃ k, (k, p) ∈ M := fun p hp => by
          obtain ⟨i, hi⟩ := List.getElem?_of_mem hp
          have hlt : i < en.ps.length := by rw [← hpl]; exact (List.getElem?_eq_some_iff.mp hi).1
          obtain ⟨p', hp1, hp2⟩ := hps i _ (List.getElem?_eq_getElem hlt)
          rw [hi] at hp1
          cases hp1
          exact ⟨_, lookM_mem hp2⟩
        have hsz : (Pr.node en.s ps).size = 1 + (ps.map Pr.size).sum := by rw [Pr.size, Pr.sizes_eq]
        refine wss_cons (ws_set 7 sc33.nd (w_addN (w_int ⟨1, rfl, w_sumN T ?_⟩)))
        refine w_lcN 8 [("_law_part", 8)] sc33.nd (blkOk_by (N := ["_law_table_here", "_law_sizes", "_law_found", "_law_is_more", "_law_sign", "_law_parts", "_law_kind", "_law_size_here", "_law_part"]) (sc := defScope (top 33)) (by decide +kernel)) (idle1F rfl ff) ?_
        refine wi_tup (w_var 5 rfl ⟨_, rfl, ?_⟩)
        refine lcq_map en.ps dN (fun k => ((lookM M k).map fun p : Pr => dN p.size).getD .none) (slt (by omega)) (fun k hk => ⟨_, rfl, fun s H C cl fp => ?_⟩) ⟨ps.map Pr.size, .inl ?_, ⟨_, rfl, fun _ => ?_⟩⟩
        · obtain ⟨p, hp⟩ := lookM_of (hmk k hk)
          refine w_getO 1 hu rfl (w_var 8 rfl ⟨_, _, rfl, (hlk k).trans (by rw [hp]; rfl), ?_⟩)
          rw [hp]
          rfl
        · rw [hmap, List.map_map]
          rfl
        · rw [← hsz]
          refine wss_one (ws_if (WT.mono (Q := fun tt => tt = true → (match lookM M en.k with | some q => (Pr.node en.s ps).size < q.size | none => True)) ?_ fun tt htt => ?_))
          · refine wt_pw (ww_or (wt_notinO 1 hu rfl (w_var 6 rfl ⟨_, rfl, ?_⟩)))
            rw [hlk]
            cases e3 : lookM M en.k with
            | none =>
              exact ite_b (fun _ _ => trivial) fun h => absurd h (by simp)
            | some q =>
              refine ite_b (fun h => absurd h (by simp)) fun _ => ?_
              refine ww_or1 (wt_cmp (w_var 7 rfl (w_getO 1 hu rfl (w_var 6 rfl ⟨_, _, rfl, (hlk en.k).trans (by rw [e3]; rfl), od_lt ⟨_, rfl, fun h => ?_⟩⟩))))
              exact Int.ofNat_lt.mp (of_decide_eq_true h)
          · cases tt with
            | false =>
              rw [if_neg Bool.false_ne_true]
              exact wss_nil ⟨M, b2, _, _, _, _, _, hM, hph, .dat, ff, .dat, .dat, .dat, rfl⟩
            | true =>
              rw [if_pos rfl]
              obtain ⟨hM2, hlt⟩ := hM.put ht h4 hen hmk hpl hpm (htt rfl)
              refine wss_cons (ws_tupDN 1 3 sc33.nd hu (by decide) rfl (by unfold encA; rw [List.length_map]; exact hML) (w_var 7 rfl (w_bool (w_var 6 rfl ⟨_, rfl, fun _ => ?_⟩))))
              refine wss_one (ws_putO 2 hu rfl (by unfold encA; rw [List.length_map]; exact hML) (w_op (w_tup (wa_cons (w_var 4 rfl (wa_nil ⟨szl (Nat.le_of_ble_eq_true rfl), w_tuple T ?_⟩))))))
              refine w_lcN 8 [("_law_part", 8)] sc33.nd (blkOk_by (N := ["_law_table_here", "_law_sizes", "_law_found", "_law_is_more", "_law_sign", "_law_parts", "_law_kind", "_law_size_here", "_law_part"]) (sc := defScope (top 33)) (by decide +kernel)) (idle1F rfl ff) ?_
              refine wi_tup (w_var 5 rfl ⟨_, rfl, ?_⟩)
              refine lcq_map en.ps dN (fun k => ((lookM M k).map Pr.enc).getD .none) (slt (by omega)) (fun k hk => ⟨_, rfl, fun s H C cl fp => ?_⟩) ⟨_, rfl, od_catT ?_ (w_var 6 rfl ⟨_, rfl, putM M en.k (.node en.s ps), true, .dat (dN en.s), .dat (tN en.ps), .dat (dN en.k), .dat (dN (Pr.node en.s ps).size), f, hM2, ⟨by omega, fun _ => by omega⟩, .dat, ff, .dat, .dat, .dat, ?_⟩)⟩
              · obtain ⟨p, hp⟩ := lookM_of (hmk k hk)
                refine w_getO 2 hu rfl (w_var 8 rfl ⟨_, _, rfl, (hlk2 k).trans (by rw [hp]; rfl), ?_⟩)
                rw [hp]
                rfl
              · rw [List.length_map, List.length_singleton]
                exact szl (by omega)
              · rw [hmap]
                have e4 : (PyData.tuple ([dN en.s] ++ ps.map Pr.enc)) = (Pr.node en.s ps).enc := by rw [Pr.enc_node]; rfl
                have e7 : putD (encA Pr.enc M) (en.k : Nat) (Pr.node en.s ps).enc = encA Pr.enc (putM M en.k (.node en.s ps)) := putD_encA M en.k (.node en.s ps)
                have e5 : putD (encA (fun p : Pr => dN p.size) M) (en.k : Nat) (dN (Pr.node en.s ps).size) = encA (fun p : Pr => dN p.size) (putM M en.k (.node en.s ps)) := putD_encA (f := fun p : Pr => dN p.size) M en.k (.node en.s ps)
                rw [e4, ← e5, ← e7]
                rfl
    · obtain ⟨M, b2, a, c, d, e, f, hM, hph, fc, ff, fe, fd, fa, rfl⟩ := hs
      refine ⟨2 * phi many M + (if b2 = true then 1 else 0), ?_, M, b2, a, c, d, e, f, hM, rfl, fc, ff, fe, fd, fa, rfl⟩
      cases b2 with
      | true =>
        have := hph.2 rfl
        rw [if_pos rfl]
        omega
      | false =>
        have := hph.1
        rw [if_neg Bool.false_ne_true]
        omega
  · obtain ⟨M, bb, a, c, d, e, f, hM, fc, ff, fe, fd, fa, rfl⟩ := hs
    refine wss_one (ws_ret (w_dictP T rfl ?_))
    refine w_lcN 6 [("_law_kind", 6)] sc33.nd (blkOk_by (N := ["_law_table_here", "_law_sizes", "_law_found", "_law_is_more", "_law_sign", "_law_parts", "_law_kind", "_law_size_here", "_law_part"]) (sc := defScope (top 33)) (by decide +kernel)) (idle1F rfl fd) ?_
    refine wi_list (w_sortedO 2 T hr rfl rfl ⟨_, rfl, ?_⟩)
    have e0 : (srt PyData.int (keysD (encA Pr.enc M))).map PyData.int = (nsort (M.map (·.1))).map dN := by
      rw [keysD_encA, srt_nats, List.map_map]
      rfl
    rw [e0]
    have hperm := nsort_perm (M.map (·.1))
    have hlen : (nsort (M.map (·.1))).length = M.length := by rw [hperm.length_eq, List.length_map]
    have hmem : ∀ k, k ∈ nsort (M.map (·.1)) → ∃ p, lookM M k = some p := fun k hk => lookM_of (hperm.mem_iff.mp hk)
    refine lcq_map (nsort (M.map (·.1))) dN (fun k => pairD ((k : Int), ((lookM M k).map Pr.enc).getD .none)) (slt (by rw [hlen]; have := hM.len; omega)) (fun k hk => ?_) ?_
    · refine ⟨_, rfl, fun s H C cl fp => ?_⟩
      obtain ⟨p, hp⟩ := hmem k hk
      refine w_tup (wa_cons (w_var 6 rfl (wa_cons (w_getO 2 hu rfl (w_var 6 rfl ⟨_, _, rfl, (lookD_encA M k).trans (by rw [hp]; rfl), wa_nil ⟨szl (Nat.le_of_ble_eq_true rfl), ?_⟩⟩)))))
      rw [hp]
      rfl
    · have hk1 : ((nsort (M.map (·.1))).map fun k => (k, (lookM M k).getD .hole)).map (·.1) = nsort (M.map (·.1)) := by
        rw [List.map_map]
        have : ((fun x : Nat × Pr => x.1) ∘ fun k => (k, (lookM M k).getD .hole)) = id := rfl
        rw [this, List.map_id]
      refine ⟨encA Pr.enc ((nsort (M.map (·.1))).map fun k => (k, (lookM M k).getD .hole)), ?_, ?_, q _ ?_⟩
      · unfold encA
        rw [List.map_map, List.map_map]
        refine congrArg PyData.list (List.map_congr_left fun k hk => ?_)
        obtain ⟨p, hp⟩ := hmem k hk
        simp only [Function.comp, hp]
        rfl
      · rw [keysD_encA, hk1]
        exact (List.pairwise_map.mpr ((hperm.nodup_iff.mpr hM.nd).imp fun h e => h (Int.ofNat.inj e)))
      · have hx : ∀ x, x ∈ ((nsort (M.map (·.1))).map fun k => (k, (lookM M k).getD .hole)) → x ∈ M := fun x hx => by
          obtain ⟨k, hk, rfl⟩ := List.mem_map.mp hx
          obtain ⟨p, hp⟩ := hmem k hk
          rw [hp]
          exact lookM_mem hp
        refine ⟨by rw [hk1]; exact hperm.nodup_iff.mpr hM.nd, fun x h => hM.lt x (hx x h), fun x h => hM.ok x (hx x h), fun x h => ?_, fun x h => ?_⟩
        · rw [List.length_map, hlen]
          exact hM.sz x (hx x h)
        · obtain ⟨e, a1, a2, a3⟩ := hM.ent x (hx x h)
          refine ⟨e, a1, a2, fun k hk => ?_⟩
          rw [hk1]
          exact hperm.mem_iff.mpr (a3 k hk)
end
end K3
end

section
set_option autoImplicit true
set_option Elab.async false
set_option linter.all false
set_option maxRecDepth 100000
set_option maxHeartbeats 1000000
namespace K3
open PySem PySem.Spec PyProof.Rows L2
theorem eqv_nilT (ns : List Nat) : PyData.eqv (.tuple (ns.map dN)) (.tuple []) = decide (ns = []) := by
  cases ns with
  | nil => rfl
  | cons n ns => rfl
theorem eqv_nilE (es : List En) : PyData.eqv (.list (es.map En.enc)) (.list []) = decide (es = []) := by
  cases es with
  | nil => rfl
  | cons n ns => rfl
theorem nodict_ens : ∀ es : List En, PyData.hasDictAll (es.map En.enc) = false
  | [] => rfl
  | e :: es => by
    show (PyData.hasDict e.enc || PyData.hasDictAll (es.map En.enc)) = false
    rw [nodict_ens es, nodict_en]
    rfl
theorem lay_en (e : En) : e.enc.canLay0 = true := by
  show (PyData.canLay0 (dN e.s) && (PyData.canLayAll0 (e.ps.map dN) && (PyData.canLay0 (dN e.k) && true))) = true
  rw [lay_ints]
  rfl
theorem lay_ens : ∀ es : List En, PyData.canLayAll0 (es.map En.enc) = true
  | [] => rfl
  | e :: es => by
    show (PyData.canLay0 e.enc && PyData.canLayAll0 (es.map En.enc)) = true
    rw [lay_ens es, lay_en]
    rfl
theorem depth_en2 (e : En) : e.enc.depth = 2 := by
  unfold En.enc
  rw [PyData.depth, PyData.depthAll, PyData.depthAll, PyData.depthAll, PyData.depthAll, depth_tN]
  exact (by decide : max 0 (max 1 (max 0 0)) + 1 = 2)
theorem depth_ens : ∀ es : List En, PyData.depthAll (es.map En.enc) ≤ 2
  | [] => Nat.zero_le _
  | e :: es => by
    rw [List.map_cons, PyData.depthAll, depth_en2]
    have := depth_ens es
    omega
theorem shaped_ens (es : List En) : SeqAt.shaped (.list (es.map En.enc)) = true := shaped_of (lay_ens es) (by rw [PyData.depth]; have := depth_ens es; omega)
theorem shaped_tN (ns : List Nat) : SeqAt.shaped (tN ns) = true := shaped_of (lay_ints ns) (by rw [depth_tN]; decide)
section
variable {P : Program} {w : World} {K : PySem.W.Frag} {mg : Str → Option Value} {base : Heap}
/-! ### _law_grown -/
def spGrown (n : Nat) : Spf := fun ds R => ∃ (many most k sz : Nat) (t : Tb) (M : List (Nat × Pr)), ds = [t.enc, dicD (encA Pr.enc M), dN k, dN sz] ∧ TbOk many most t ∧ many ≤ 4 ∧ Mi many t M ∧ k ∈ M.map (·.1) ∧ sz ≤ n ∧ sz ≤ 100 ∧ ∀ p, PrOk t.signs p → p.depth ≤ sz + 15 → p.size ≤ 32 * sz + 16 → R p.enc
abbrev n36 : List Str := ["_law_bag_here", "_law_table_here", "_law_made_here", "_law_kind", "_law_size_here", "_law_some_here", "_law_wide", "_law_sign", "_law_parts", "_law_top", "_law_left", "_law_found", "_law_at", "_law_part", "_law_share", "_law_entry_here"]
theorem sc36 : FnScope n36 ["_law_bag_here", "_law_table_here", "_law_made_here", "_law_kind", "_law_size_here"] (defScope (top 36)) := ⟨rfl, rfl, rfl, by decide +kernel, rfl, by decide +kernel, by decide +kernel⟩
theorem ok_grown (T : Tx K mg) : ∀ n : Nat, FnN P w K mg base (n + 3) "_law_grown" ["_law_bag_here", "_law_table_here", "_law_made_here", "_law_kind", "_law_size_here"] (spB K (spGrown n)) := by
  intro n
  induction n with
  | zero => exact go T 0 (fun _ h => by omega)
  | succ n ih => exact go T (n + 1) (fun m h => by
      have e : m = n := by omega
      subst e
      exact ih)
where
  go (T : Tx K mg) (n : Nat) (ih : ∀ m, n = m + 1 → FnN P w K mg base (m + 3) "_law_grown" ["_law_bag_here", "_law_table_here", "_law_made_here", "_law_kind", "_law_size_here"] (spB K (spGrown m))) : FnN P w K mg base (n + 3) "_law_grown" ["_law_bag_here", "_law_table_here", "_law_made_here", "_law_kind", "_law_size_here"] (spB K (spGrown n)) := by
    obtain ⟨f, fd, F, hmg⟩ := T.top (x := "_law_grown") (j := 36) 25
    refine fnB_of F hmg sc36 (fun _ _ _ _ _ _ us hl => match us, hl with | [_, _, _, _, _], _ => rfl) (fun ds R h => by obtain ⟨_, _, _, _, _, _, rfl, _⟩ := h; rfl) fun cdv A outer s H E b ds R hr h => ?_
    obtain ⟨many, most, k, sz, t, M, rfl, ht, h4, hM, hk, hn, h100, q⟩ := h
    have hu : (A.deeper (envOfC "_law_grown" (defScope (top 36)) s.heap.objs.size f cdv)).units + 1 < cLine := L2.hu_of hr.1
    have hlk : ∀ k, lookD (encA Pr.enc M) (k : Nat) = (lookM M k).map Pr.enc := fun k => lookD_encA M k
    let so := t.ents.filter fun e => decide (e.k = k) && e.ps.all fun j => (lookM M j).isSome
    have hso : ∀ e, e ∈ so → e ∈ t.ents ∧ e.k = k ∧ ∀ j, j ∈ e.ps → j ∈ M.map (·.1) := fun e he => by
      obtain ⟨a1, a2⟩ := List.mem_filter.mp he
      rw [Bool.and_eq_true] at a2
      refine ⟨a1, of_decide_eq_true a2.1, fun j hj => ?_⟩
      have := List.all_eq_true.mp a2.2 j hj
      rw [lookM_isSome] at this
      exact of_decide_eq_true this
    have hsl : so.length ≤ 24 := Nat.le_trans (List.length_filter_le _ _) ht.n
    have hne : so ≠ [] := fun h0 => by
      obtain ⟨x, hx, hxk⟩ := List.mem_map.mp hk
      obtain ⟨e, a1, a2, a3⟩ := hM.ent x hx
      have : e ∈ so := List.mem_filter.mpr ⟨a1, by
        rw [Bool.and_eq_true]
        refine ⟨decide_eq_true (a2.trans hxk), List.all_eq_true.mpr fun j hj => ?_⟩
        rw [lookM_isSome]
        exact decide_eq_true (a3 j hj)⟩
      rw [h0] at this
      cases this
    refine wss_mid (fun S' => S' = [.bag b, .dat t.enc, .dat (dicD (encA Pr.enc M)), .dat (dN k), .dat (dN sz), .own (so.map En.enc), .no, .no, .no, .no, .no, .no, .no, .no, .no, .no]) ?_ fun S' hl hs => ?_
    · refine ws_lcN 5 15 [("_law_entry_here", 15)] sc36.nd (blkOk_by (N := n36) (sc := defScope (top 36)) (by decide +kernel)) (idle1 rfl) ?_
      refine wi_tup (w_ix (w_var 1 rfl (w_int (xd_tup (i := 2) rfl ⟨_, rfl, ?_⟩))))
      refine lcq_filter t.ents En.enc (fun e => decide (e.k = k) && e.ps.all fun j => (lookM M j).isSome) En.enc (slt (by have := ht.n; omega)) (fun e he => ⟨_, rfl, fun s H C cl fp => wts_one (wt_pw (ww_and (wt_cmp (w_ix (w_var 15 rfl (w_int (xd_tup (i := 2) rfl (w_var 3 rfl (od_eq ⟨_, rfl, ?_⟩))))))))), fun _ s H C cl fp => w_var 15 rfl rfl⟩) rfl
      have hdec : decide (((e.k : Nat) : Int) = ((k : Nat) : Int)) = decide (e.k = k) := by
        rw [decide_eq_decide]
        exact ⟨fun h => Int.ofNat.inj h, fun h => by rw [h]⟩
      rw [hdec]
      refine ite_b (fun hc => ?_) fun hc => by rw [hc]; rfl
      rw [hc, Bool.true_and]
      refine ww_and1 (wt_cmp ?_)
      have har := ht.s.len (ht.e e he).1
      refine w_lcN 13 [("_law_part", 13)] sc36.nd (BlkOk.re (blkOk_by (N := n36) (by decide +kernel))) (idle1 rfl) ?_
      refine wi_tup (w_ix (w_var 15 rfl (w_int (xd_tup (i := 1) rfl ⟨_, rfl, ?_⟩))))
      refine lcq_filter e.ps dN (fun k => !(lookM M k).isSome) dN (slt (by omega)) (fun j hj => ⟨_, rfl, fun s H C cl fp => wts_one (wt_notinD hu (w_var 13 rfl ⟨_, rfl, w_var 2 rfl ⟨_, rfl, ?_⟩⟩)), fun _ s H C cl fp => w_var 13 rfl rfl⟩) (w_lst (wa_nil ⟨szl (Nat.zero_le _), od_eqD hr.1.units (nodict_ints _) rfl (shaped_lN _) rfl ⟨_, rfl, ?_⟩⟩))
      · rw [hlk]
        cases lookM M j <;> rfl
      · rw [eqv_nil]
        rw [Bool.eq_iff_iff, decide_eq_true_eq, List.filter_eq_nil_iff, List.all_eq_true]
        exact ⟨fun h x hx => by
          have := h x hx
          cases e2 : (lookM M x).isSome with
          | true => rfl
          | false => exact absurd (by rw [e2]; rfl) this, fun h x hx => by
          rw [h x hx]
          decide⟩
    subst hs
    refine wss_frz 5 rfl ?_
    refine wss_cons (ws_if (wt_cmp (w_var 4 rfl (w_int (od_lt ⟨_, rfl, ite_dec (fun c => ?_) fun c => wss_nil fun _ => ?_⟩)))))
    · obtain ⟨p, hp⟩ := lookM_of hk
      refine wss_one (ws_ret (w_getD hu (w_var 2 rfl ⟨_, rfl, w_var 3 rfl ⟨_, p.enc, rfl, (hlk k).trans (by rw [hp]; rfl), q p ?_ ?_ ?_, _, rfl, BagLike.bag⟩⟩)))
      · exact hM.ok _ (lookM_mem hp)
      · have h1 := hM.sz15 h4 (lookM_mem hp)
        have h2 := p.depth_le_size
        have h3 : p.size ≤ 15 := h1
        omega
      · have h1 := hM.sz15 h4 (lookM_mem hp)
        have h3 : p.size ≤ 15 := h1
        omega
    have hs2 : 2 ≤ sz := by omega
    obtain ⟨m, rfl⟩ : ∃ m, n = m + 1 := ⟨n - 1, by omega⟩
    let wd := so.filter fun e => !decide (e.ps = [])
    refine wss_mid (fun S' => S' = [.bag b, .dat t.enc, .dat (dicD (encA Pr.enc M)), .dat (dN k), .dat (dN sz), .dat (.list (so.map En.enc)), .own (wd.map En.enc), .no, .no, .no, .no, .no, .no, .no, .no, .no]) ?_ fun S' hl hs => ?_
    · refine ws_lcN 6 15 [("_law_entry_here", 15)] sc36.nd (blkOk_by (N := n36) (sc := defScope (top 36)) (by decide +kernel)) (idle1 rfl) ?_
      refine wi_list (w_var 5 rfl ⟨_, rfl, ?_⟩)
      refine lcq_filter so En.enc (fun e => !decide (e.ps = [])) En.enc (slt (by omega)) (fun e he => ⟨_, rfl, fun s H C cl fp => wts_one (wt_cmp (w_ix (w_var 15 rfl (w_int (xd_tup (i := 1) rfl (w_tup (wa_nil ⟨szl (Nat.zero_le _), od_neD hr.1.units (nodict_tN _) rfl (shaped_tN _) rfl ⟨_, rfl, ?_⟩⟩))))))), fun _ s H C cl fp => w_var 15 rfl rfl⟩) rfl
      rw [eqv_nilT]
    subst hs
    refine wss_frz 6 rfl ?_
    refine wss_mid (fun S' => ∃ e : En, e ∈ so ∧ S' = [.bag b, .dat t.enc, .dat (dicD (encA Pr.enc M)), .dat (dN k), .dat (dN sz), .dat (.list (so.map En.enc)), .dat (.list (wd.map En.enc)), .dat (dN e.s), .dat (tN e.ps), .dat (dN e.k), .no, .no, .no, .no, .no, .no]) ?_ fun S' hl hs => ?_
    · refine ws_unp3 7 8 9 sc36.nd (w_callB' 0 (ok_some T) hr (by omega) rfl (wa_cons (w_if (WT.mono (Q := fun tt => tt = true → wd ≠ []) ?_ fun tt htt => ?_))))
      · refine wt_pw (ww_and (wt_cmp (w_var 6 rfl (w_lst (wa_nil ⟨szl (Nat.zero_le _), od_neD hr.1.units (nodict_ens _) rfl (shaped_ens _) rfl ⟨_, rfl, ?_⟩⟩)))))
        rw [eqv_nilE]
        refine ite_b (fun hc => ?_) fun hc h => (nomatch h)
        refine ww_and1 (wt_cmp (w_callB' 0 (ok_take T) hr (by omega) rfl (wa_cons (w_int (wa_nil ⟨8, rfl, by decide, by decide, fun v hv => w_int (od_gt ⟨_, rfl, fun _ h0 => ?_⟩)⟩)))))
        rw [h0] at hc
        cases hc
      · have pick : ∀ L : List En, L ≠ [] → (∀ e, e ∈ L → e ∈ so) → L.length ≤ 24 → spSome [.list (L.map En.enc)] (fun d => ∃ a b' c, d = .tuple [a, b', c] ∧ ∃ e : En, e ∈ so ∧ setAll [7, 8, 9] [Sv.dat a, .dat b', .dat c] [.bag b, .dat t.enc, .dat (dicD (encA Pr.enc M)), .dat (dN k), .dat (dN sz), .dat (.list (so.map En.enc)), .dat (.list (wd.map En.enc)), .no, .no, .no, .no, .no, .no, .no, .no, .no] = ([.bag b, .dat t.enc, .dat (dicD (encA Pr.enc M)), .dat (dN k), .dat (dN sz), .dat (.list (so.map En.enc)), .dat (.list (wd.map En.enc)), .dat (dN e.s), .dat (tN e.ps), .dat (dN e.k), .no, .no, .no, .no, .no, .no] : Sto K)) := fun L hL hLs hL24 => by
          refine ⟨L.map En.enc, rfl, ?_, ?_, fun x hx => ?_⟩
          · rw [List.length_map]
            exact List.length_pos_iff.mpr hL
          · rw [List.length_map]
            omega
          · obtain ⟨e, he, rfl⟩ := List.mem_map.mp hx
            exact ⟨_, _, _, rfl, e, hLs e he, rfl⟩
        cases tt with
        | true =>
          rw [if_pos rfl]
          exact w_var 6 rfl (wa_nil (pick wd (htt rfl) (fun e he => (List.mem_filter.mp he).1) (Nat.le_trans (List.length_filter_le _ _) hsl)))
        | false =>
          rw [if_neg Bool.false_ne_true]
          exact w_var 5 rfl (wa_nil (pick so hne (fun e he => he) hsl))
    obtain ⟨e, he, rfl⟩ := hs
    obtain ⟨hen, hek, hep⟩ := hso e he
    have hE := ht.e e hen
    have har := ht.s.len hE.1
    refine wss_cons (ws_par2 10 11 sc36.nd (wva_cons (wv_dat (w_subN (w_var 4 rfl ⟨sz, rfl, w_int ⟨1, rfl, by omega, wva_cons (wv_lst (wa_nil ⟨szl (Nat.zero_le _), wva_nil ⟨rfl, fun _ => ?_⟩⟩))⟩⟩)))))
    refine wss_cons (ws_forT2 12 13 sc36.nd (wi_enumT T (w_var 8 rfl ⟨_, rfl, ?_⟩)))
    have ez : (e.ps.map dN).zipIdx.map (fun p => PyData.tuple [.int (p.2 : Int), p.1]) = e.ps.zipIdx.map fun p => PyData.tuple [dN p.2, dN p.1] := by
      rw [List.zipIdx_map, List.map_map]
      rfl
    rw [ez]
    refine forQ_map e.ps.zipIdx (fun p => PyData.tuple [dN p.2, dN p.1]) (fun pre S' => ∃ (ps : List Pr) (l : Nat) (a c d : Sv K), ps.length = pre.length ∧ (∀ p, p ∈ ps → PrOk t.signs p ∧ p.depth ≤ sz - 1 + 15) ∧ Pr.sizes ps ≤ 32 * (sz - 1 - l) + 16 * pre.length ∧ l ≤ sz - 1 ∧ (pre.length < e.ps.length → 1 ≤ l) ∧ S' = [.bag b, .dat t.enc, .dat (dicD (encA Pr.enc M)), .dat (dN k), .dat (dN sz), .dat (.list (so.map En.enc)), .dat (.list (wd.map En.enc)), .dat (dN e.s), .dat (tN e.ps), .dat (dN e.k), .dat (dN l), .own (ps.map Pr.enc), a, c, d, .no]) ⟨[], sz - 1, .no, .no, .no, rfl, fun p hp => (nomatch hp), Nat.zero_le _, Nat.le_refl _, fun _ => by omega, rfl⟩ (fun pre pk post S' ee hl hs => ?_) (fun S' hl hs => fun _ => ?_)
    · obtain ⟨ps, l, a, c, d, hpl, hps, hsum, hll, hl1, rfl⟩ := hs
      obtain ⟨kp, i⟩ := pk
      have hii : i = pre.length ∧ e.ps[i]? = some kp := by
        have h1 : e.ps.zipIdx[pre.length]? = some (kp, i) := by rw [ee, List.getElem?_append_right (Nat.le_refl _), Nat.sub_self]; rfl
        rw [List.getElem?_zipIdx] at h1
        cases e2 : e.ps[pre.length]? with
        | none =>
          rw [e2] at h1
          cases h1
        | some x =>
          rw [e2] at h1
          simp only [Option.map_some, Option.some.injEq, Prod.mk.injEq] at h1
          refine ⟨by omega, ?_⟩
          have : i = pre.length := by omega
          rw [this, e2, h1.1]
      have hlt : i < e.ps.length := (List.getElem?_eq_some_iff.mp hii.2).1
      have hl1' := hl1 (by omega)
      refine ⟨_, ⟨[dN i, dN kp], rfl, rfl, rfl⟩, wss_mid (fun S' => ∃ sh : Nat, sh ≤ l ∧ (i + 1 < e.ps.length → sh < l) ∧ S' = [.bag b, .dat t.enc, .dat (dicD (encA Pr.enc M)), .dat (dN k), .dat (dN sz), .dat (.list (so.map En.enc)), .dat (.list (wd.map En.enc)), .dat (dN e.s), .dat (tN e.ps), .dat (dN e.k), .dat (dN l), .own (ps.map Pr.enc), .dat (dN i), .dat (dN kp), .dat (dN sh), .no]) ?_ fun S' hl hs => ?_⟩
      · refine ws_set 14 sc36.nd (w_if (wt_cmp (w_var 12 rfl (w_subN (w_len T (w_var 8 rfl ⟨_, .inr rfl, e.ps.length, by rw [List.length_map], w_int ⟨1, rfl, by omega, od_eq ⟨_, rfl, ite_dec (fun c => ?_) fun c => ?_⟩⟩⟩))))))
        · exact w_var 10 rfl ⟨l, Nat.le_refl _, fun h => by omega, rfl⟩
        · refine w_callB' 0 (ok_take T) hr (by omega) rfl (wa_cons (w_max T rfl (w_int ⟨_, rfl, w_var 10 rfl ⟨_, rfl, wa_nil ⟨l, ?_, by omega, by omega, fun v hv => ⟨v, by omega, fun _ => by omega, rfl⟩⟩⟩⟩)))
          by_cases h1 : (l : Int) > 1
          · rw [if_pos h1]
          · rw [if_neg h1]
            have : l = 1 := by omega
            subst this
            rfl
      · obtain ⟨sh, g1, g3, rfl⟩ := hs
        have hkm : kp ∈ M.map (·.1) := hep kp (List.mem_of_getElem? hii.2)
        refine wss_cons (ws_append 11 rfl (by rw [List.length_map]; omega) (w_callB' 0 (ih m rfl) hr (Nat.le_refl _) rfl (wa_cons (w_var 1 rfl (wa_cons (w_var 2 rfl (wa_cons (w_var 13 rfl (wa_cons (w_min T rfl (w_var 14 rfl ⟨_, rfl, w_var 10 rfl ⟨_, rfl, wa_nil ⟨many, most, kp, sh, t, M, ?_, ht, h4, hM, hkm, by omega, by omega, fun p hp hpd hpz => fun _ => ?_⟩⟩⟩)))))))))))
        · rw [if_neg (by omega)]
        · refine wss_one (ws_aug 10 ip_sub sc36.nd (n := ((l : Nat) : Int)) rfl (w_var 14 rfl ⟨_, rfl, ps ++ [p], l - sh, .dat (dN i), .dat (dN kp), .dat (dN sh), by rw [List.length_append, List.length_append, hpl]; rfl, fun p' hp' => ?_, ?_, by omega, fun hlt2 => ?_, ?_⟩))
          · rcases List.mem_append.mp hp' with h | h
            · exact hps p' h
            · rw [List.mem_singleton] at h
              rw [h]
              exact ⟨hp, by omega⟩
          · rw [Pr.sizes_append, Pr.sizes, Pr.sizes, List.length_append, List.length_singleton]
            omega
          · rw [List.length_append, List.length_singleton] at hlt2
            have := g3 (by omega)
            omega
          · have e1 : ((l : Int) - (sh : Int)) = ((l - sh : Nat) : Int) := by omega
            rw [e1, List.map_append]
            rfl
    · obtain ⟨ps, l, a, c, d, hpl, hps, hsum, hll, hl1, rfl⟩ := hs
      rw [List.length_zipIdx] at hpl hsum
      refine wss_frz 11 rfl (wss_one (ws_ret (w_op (w_tup (wa_cons (w_var 7 rfl (wa_nil ⟨szl (Nat.le_of_ble_eq_true rfl), w_tuple T (w_var 11 rfl ⟨_, rfl, od_catT ?_ ⟨?_, _, rfl, BagLike.bag⟩⟩)⟩)))))))
      · rw [List.length_map, List.length_singleton]
        exact szl (by omega)
      · have hp := PrOk.node (σ := t.signs) (s := e.s) (ps := ps) (by rw [hpl]; exact hE.1) fun p hp => (hps p hp).1
        have := q _ hp (by
          rw [Pr.depth]
          have : ∀ ps : List Pr, (∀ p, p ∈ ps → p.depth ≤ sz - 1 + 15) → Pr.depths ps ≤ sz - 1 + 15 := by
            intro ps
            induction ps with
            | nil => intro _; rw [Pr.depths]; omega
            | cons x xs ih =>
              intro h
              rw [Pr.depths]
              have h1 := h x List.mem_cons_self
              have h2 := ih fun p hp => h p (List.mem_cons_of_mem _ hp)
              omega
          have := this ps fun p hp => (hps p hp).2
          omega) (by rw [Pr.size]; omega)
        rw [Pr.enc_node] at this
        exact this
end
end K3
end

section
set_option autoImplicit true
set_option Elab.async false
set_option linter.all false
set_option maxRecDepth 100000
set_option maxHeartbeats 1000000
namespace K3
open PySem PySem.Spec PyProof.Rows L2
theorem eqv_empty (ds : List D) : PyData.eqv (.list ds) (.list []) = ds.isEmpty := by
  cases ds <;> rfl
mutual
theorem nodict_pr : ∀ p : Pr, p.enc.hasDict = false
  | .hole => by rw [Pr.enc]; rfl
  | .node s ps => by
    rw [Pr.enc]
    show (PyData.hasDict (dN s) || PyData.hasDictAll (Pr.encs ps)) = false
    rw [nodict_prs ps]
    rfl
theorem nodict_prs : ∀ ps : List Pr, PyData.hasDictAll (Pr.encs ps) = false
  | [] => by rw [Pr.encs]; rfl
  | p :: ps => by
    rw [Pr.encs]
    show (PyData.hasDict p.enc || PyData.hasDictAll (Pr.encs ps)) = false
    rw [nodict_pr p, nodict_prs ps]
    rfl
end
mutual
theorem depth_pr : ∀ p : Pr, PyData.depth p.enc = p.depth
  | .hole => by rw [Pr.enc, Pr.depth]; rfl
  | .node s ps => by
    rw [Pr.enc, Pr.depth, PyData.depth, PyData.depthAll, depth_prs ps]
    show max 0 (Pr.depths ps) + 1 = 1 + Pr.depths ps
    omega
theorem depth_prs : ∀ ps : List Pr, PyData.depthAll (Pr.encs ps) = Pr.depths ps
  | [] => by rw [Pr.encs, Pr.depths]; rfl
  | p :: ps => by rw [Pr.encs, Pr.depths, PyData.depthAll, depth_pr p, depth_prs ps]
end
mutual
theorem lay_pr : ∀ p : Pr, p.enc.canLay0 = true
  | .hole => by rw [Pr.enc]; rfl
  | .node s ps => by
    rw [Pr.enc]
    show (PyData.canLay0 (dN s) && PyData.canLayAll0 (Pr.encs ps)) = true
    rw [lay_prs ps]
    rfl
theorem lay_prs : ∀ ps : List Pr, PyData.canLayAll0 (Pr.encs ps) = true
  | [] => by rw [Pr.encs]; rfl
  | p :: ps => by
    rw [Pr.encs]
    show (PyData.canLay0 p.enc && PyData.canLayAll0 (Pr.encs ps)) = true
    rw [lay_pr p, lay_prs ps]
    rfl
end
mutual
theorem alike_pr : ∀ p q : Pr, p.full → q.full → PySem.W.alike p.enc q.enc = true
  | .hole, _, h, _ => by rw [Pr.full] at h; exact h.elim
  | .node _ _, .hole, _, h => by rw [Pr.full] at h; exact h.elim
  | .node s ps, .node s' qs, h, h' => by
    rw [Pr.full] at h h'
    rw [Pr.enc, Pr.enc]
    show (PySem.W.alike (dN s) (dN s') && PySem.W.alikeAll (Pr.encs ps) (Pr.encs qs)) = true
    rw [alike_prs ps qs h h']
    rfl
theorem alike_prs : ∀ ps qs : List Pr, Pr.fulls ps → Pr.fulls qs → PySem.W.alikeAll (Pr.encs ps) (Pr.encs qs) = true
  | [], qs, _, _ => by rw [Pr.encs]; exact by cases Pr.encs qs <;> rfl
  | p :: ps, [], _, _ => by rw [Pr.encs, Pr.encs]; rfl
  | p :: ps, q :: qs, h, h' => by
    rw [Pr.fulls] at h h'
    rw [Pr.encs, Pr.encs]
    show (PySem.W.alike p.enc q.enc && PySem.W.alikeAll (Pr.encs ps) (Pr.encs qs)) = true
    rw [alike_pr p q h.1 h'.1, alike_prs ps qs h.2 h'.2]
    rfl
end
theorem srt_perm2 {β : Type} (enc : β → D) (bs : List β) : (srt enc bs).Perm bs := List.mergeSort_perm _ _
abbrev FP : Type := { p : Pr // p.full }
def FP.enc (x : FP) : D := .tuple [dN x.1.size, x.1.enc]
theorem alike_fp (x y : FP) : PySem.W.alike x.enc y.enc = true := by
  show (PySem.W.alike (dN x.1.size) (dN y.1.size) && (PySem.W.alike x.1.enc y.1.enc && true)) = true
  rw [alike_pr _ _ x.2 y.2]
  rfl
theorem nodict_fp (x : FP) : x.enc.hasDict = false := by
  show (PyData.hasDict (dN x.1.size) || (PyData.hasDict x.1.enc || false)) = false
  rw [nodict_pr]
  rfl
theorem depth_fp (x : FP) : x.enc.depth = x.1.depth + 1 := by
  unfold FP.enc
  rw [PyData.depth, PyData.depthAll, PyData.depthAll, PyData.depthAll, depth_pr]
  show max 0 (max x.1.depth 0) + 1 = _
  omega
theorem lay_fps : ∀ xs : List FP, PyData.canLayAll0 (xs.map FP.enc) = true
  | [] => rfl
  | x :: xs => by
    show (PyData.canLay0 x.enc && PyData.canLayAll0 (xs.map FP.enc)) = true
    rw [lay_fps xs]
    show ((PyData.canLay0 (dN x.1.size) && (PyData.canLay0 x.1.enc && true)) && true) = true
    rw [lay_pr]
    rfl
theorem nodict_fps : ∀ xs : List FP, PyData.hasDictAll (xs.map FP.enc) = false
  | [] => rfl
  | x :: xs => by
    show (PyData.hasDict x.enc || PyData.hasDictAll (xs.map FP.enc)) = false
    rw [nodict_fps xs, nodict_fp]
    rfl
theorem depth_fps : ∀ (xs : List FP) (n : Nat), (∀ x, x ∈ xs → x.1.depth ≤ n) → PyData.depthAll (xs.map FP.enc) ≤ n + 1
  | [], n, _ => Nat.zero_le _
  | x :: xs, n, h => by
    rw [List.map_cons, PyData.depthAll, depth_fp]
    have h1 := h x List.mem_cons_self
    have h2 := depth_fps xs n fun y hy => h y (List.mem_cons_of_mem _ hy)
    omega
section
variable {P : Program} {w : World} {K : PySem.W.Frag} {mg : Str → Option Value} {base : Heap}
/-! ### _law_program -/
def optE (o : Option Pr) : D := (o.map Pr.enc).getD .none
def spProgram : Spf := fun ds R => ∃ (many most sz : Nat) (t : Tb), ds = [t.enc, dN sz] ∧ TbOk many most t ∧ many ≤ 4 ∧ 1 ≤ sz ∧ sz ≤ 10 ∧ R .none ∧ ∀ p, PrOk t.signs p → p.size ≤ sz → R p.enc
abbrev n37 : List Str := ["_law_bag_here", "_law_table_here", "_law_size_here", "_law_turn", "_law_least", "_law_made_here", "_law_best", "_law_found", "_law_kind"]
theorem sc37 : FnScope n37 ["_law_bag_here", "_law_table_here", "_law_size_here"] (defScope (top 37)) := ⟨rfl, rfl, rfl, by decide +kernel, rfl, by decide +kernel, by decide +kernel⟩
theorem ok_program (T : Tx K mg) : FnN P w K mg base 31 "_law_program" ["_law_bag_here", "_law_table_here", "_law_size_here"] (spB K spProgram) := by
  obtain ⟨f, fd, F, hmg⟩ := T.top (x := "_law_program") (j := 37) 26
  refine fnB_of F hmg sc37 (fun _ _ _ _ _ _ us hl => match us, hl with | [_, _, _], _ => rfl) (fun ds R h => by obtain ⟨_, _, _, _, rfl, _⟩ := h; rfl) fun cdv A outer s H E b ds R hr h => ?_
  obtain ⟨many, most, sz, t, rfl, ht, h4, h1, h10, qn, q⟩ := h
  have hu : (A.deeper (envOfC "_law_program" (defScope (top 37)) s.heap.objs.size f cdv)).units + 1 < cLine := L2.hu_of hr.1
  refine wss_cons (ws_tup2 5 6 sc37.nd (wva_cons (wv_dat (w_call (ok_made T) hr (by decide) (wa_cons (w_var 1 rfl (wa_nil ⟨many, most, t, rfl, ht, h4, fun M hM => wva_cons (wv_dat (w_none (wva_nil ⟨rfl, fun _ => ?_⟩)))⟩)))))))
  have hML := hM.len
  refine wss_mid (fun S' => ∃ (bo : Option Pr) (a c : Sv K), Fr a ∧ Fr c ∧ (∀ p, bo = some p → PrOk t.signs p ∧ p.size ≤ sz) ∧ S' = [.bag b, .dat t.enc, .dat (dN sz), a, .no, .dat (dicD (encA Pr.enc M)), .dat (optE bo), c, .no]) ?_ fun S' hl hs => ?_
  · refine ws_forN 3 sc37.nd (wi_rangeN T (W.mono (Q := fun d => ∃ n, d = dN n ∧ n ≤ 10 ∧ (n = 0 ∨ M ≠ [])) ?_ fun d ⟨n, ed, hn, hM0⟩ => ⟨n, ed, by omega, ?_⟩))
    · refine w_if (wt_cmp (w_var 5 rfl (w_dnew (od_neDic (Nat.lt_of_succ_lt hu) ⟨_, rfl, ite_b (fun hc => ?_) fun hc => w_int ⟨0, rfl, by decide, .inl rfl⟩⟩))))
      have hne : M ≠ [] := fun e => by
        rw [e] at hc
        cases hc
      refine w_callB' 0 (ok_some T) hr (by decide) rfl (wa_cons (w_lst (wa_cons (w_int (wa_cons (w_int (wa_cons (w_int (wa_nil ⟨szl (Nat.le_of_ble_eq_true rfl), wa_nil ⟨[dN 4, dN 4, dN 1], rfl, by decide, by decide, fun x hx => ?_⟩⟩)))))))))
      simp only [List.mem_cons, List.not_mem_nil, or_false] at hx
      rcases hx with h | h | h <;> exact ⟨_, h, by decide, .inr hne⟩
    · refine forQ_map (List.range n) dN (fun pre S' => ∃ (bo : Option Pr) (a c : Sv K), Fr a ∧ Fr c ∧ (∀ p, bo = some p → PrOk t.signs p ∧ p.size ≤ sz) ∧ S' = [.bag b, .dat t.enc, .dat (dN sz), a, .no, .dat (dicD (encA Pr.enc M)), .dat (optE bo), c, .no]) ⟨none, .no, .no, .no, .no, fun p h => (nomatch h), rfl⟩ (fun pre i post S' ee hl hs => ?_) (fun S' hl hs => hs)
      obtain ⟨bo, a, c, fa, fc, hbo, rfl⟩ := hs
      have hne : M ≠ [] := by
        rcases hM0 with h0 | h0
        · have := (range_split ee).2
          omega
        · exact h0
      refine ⟨_, rfl, wss_mid (fun S' => ∃ p : Pr, PrOk t.signs p ∧ p.depth ≤ 25 ∧ p.size ≤ 1000 ∧ S' = [.bag b, .dat t.enc, .dat (dN sz), .dat (dN i), .no, .dat (dicD (encA Pr.enc M)), .dat (optE bo), .dat p.enc, .no]) ?_ fun S' hl hs => ?_⟩
      · refine ws_set 7 sc37.nd (w_callB' 0 (ok_grown T 10) hr (by decide) rfl (wa_cons (w_var 1 rfl (wa_cons (w_var 5 rfl (wa_cons (w_callB' 0 (ok_some T) hr (by decide) rfl (wa_cons (w_listDic T rfl (w_var 5 rfl ⟨_, rfl, wa_nil ⟨_, rfl, ?_, ?_, fun x hx => ?_⟩⟩))))))))))
        · unfold keysD encA
          rw [List.length_map, List.length_map, List.length_map]
          exact List.length_pos_iff.mpr hne
        · unfold keysD encA
          rw [List.length_map, List.length_map, List.length_map]
          omega
        · rw [keysD_encA, List.map_map] at hx
          obtain ⟨k, hk, rfl⟩ := List.mem_map.mp hx
          refine wa_cons (w_addN (w_int ⟨1, rfl, w_callB' 0 (ok_take T) hr (by decide) rfl (wa_cons (w_var 2 rfl (wa_nil ⟨sz, rfl, by omega, by omega, fun v hv => ⟨v, rfl, wa_nil ⟨many, most, k, 1 + v, t, M, rfl, ht, h4, hM, hk, by omega, by omega, fun p hp hd hz => ⟨p, hp, by omega, by omega, rfl⟩⟩⟩⟩)))⟩))
      · obtain ⟨p, hp, hd, hz, rfl⟩ := hs
        refine wss_one (ws_if (WT.mono (Q := fun tt => tt = true → p.size ≤ sz) ?_ fun tt htt => ?_))
        · refine wt_pw (ww_and (wt_cmp (w_call (ok_size T 25) hr (by decide) (wa_cons (w_var 7 rfl (wa_nil ⟨p, rfl, hd, hz, w_var 2 rfl (od_le ⟨_, rfl, ite_dec (fun hc => ?_) fun hc h => (nomatch h)⟩)⟩))))))
          have hc' : p.size ≤ sz := Int.ofNat_le.mp hc
          refine ww_and1 (wt_pw (ww_or (wt_cmp (w_var 6 rfl (w_none (od_is ⟨_, rfl, ite_b (fun _ _ => hc') fun hn => ?_⟩))))))
          cases bo with
          | none => cases hn
          | some p0 =>
            have hb := (hbo p0 rfl).2
            have hb2 := p0.depth_le_size
            refine ww_or1 (wt_cmp (w_call (ok_size T 25) hr (by decide) (wa_cons (w_var 7 rfl (wa_nil ⟨p, rfl, hd, hz, w_call (ok_size T 25) hr (by decide) (wa_cons (w_var 6 rfl (wa_nil ⟨p0, rfl, by omega, by omega, od_gt ⟨_, rfl, fun _ => hc'⟩⟩)))⟩)))))
        · cases tt with
          | true =>
            rw [if_pos rfl]
            exact wss_one (ws_set 6 sc37.nd (w_var 7 rfl ⟨some p, _, _, .dat, .dat, fun p' h => by cases h; exact ⟨hp, htt rfl⟩, rfl⟩))
          | false =>
            rw [if_neg Bool.false_ne_true]
            exact wss_nil ⟨bo, _, _, .dat, .dat, hbo, rfl⟩
  obtain ⟨bo, a, c, fa, fc, hbo, rfl⟩ := hs
  refine wss_mid (fun S' => ∃ L : List FP, (∀ x, x ∈ L → PrOk t.signs x.1 ∧ x.1.size ≤ 15) ∧ S' = [.bag b, .dat t.enc, .dat (dN sz), a, .dat (.list (L.map FP.enc)), .dat (dicD (encA Pr.enc M)), .dat (optE bo), c, .no]) ?_ fun S' hl hs => ?_
  · refine ws_set 4 sc37.nd (w_if (wt_cmp (w_var 6 rfl (w_none (od_is ⟨_, rfl, ite_b (fun hc => ?_) fun hc => ?_⟩)))))
    · refine w_sorted T hr FP.enc alike_fp (.inl fun x => ⟨_, _, rfl⟩) ?_
      refine w_lcN 8 [("_law_kind", 8)] sc37.nd (blkOk_by (N := n37) (sc := defScope (top 37)) (by decide +kernel)) (idle1 rfl) ?_
      refine wi_keysD (w_var 5 rfl ⟨_, rfl, ?_⟩)
      have hfull : ∀ x, x ∈ M → x.2.full := fun x hx => (hM.ok x hx).2
      have hlk : ∀ x, x ∈ M → lookM M x.1 = some x.2 := fun x hx => lookM_nodup hM.nd hx
      have ek : (keysD (encA Pr.enc M)).map PyData.int = M.map fun x => dN x.1 := by
        rw [keysD_encA, List.map_map, List.map_map]
        rfl
      rw [ek]
      refine lcq_map M (fun x => dN x.1) (fun x => .tuple [dN x.2.size, x.2.enc]) (slt (by omega)) (fun x hx => ?_) ?_
      · have h15 := hM.sz15 h4 hx
        have hd := x.2.depth_le_size
        have hl2 : lookD (encA Pr.enc M) ((x.1 : Nat) : Int) = some x.2.enc := by rw [lookD_encA, hlk x hx]; rfl
        refine ⟨_, rfl, fun s H C cl fp => w_tup (wa_cons (w_call (ok_size T 25) hr (by decide) (wa_cons (w_getD hu (w_var 5 rfl ⟨_, rfl, w_var 8 rfl ⟨_, _, rfl, hl2, wa_nil ⟨x.2, rfl, by omega, by omega, wa_cons (w_getD hu (w_var 5 rfl ⟨_, rfl, w_var 8 rfl ⟨_, _, rfl, hl2, wa_nil ⟨szl (Nat.le_of_ble_eq_true rfl), rfl⟩⟩⟩))⟩⟩⟩)))))⟩
      · refine ⟨M.attach.map fun x => ⟨x.1.2, hfull x.1 x.2⟩, ?_, fun x hx => ⟨nodict_fp x, ?_⟩, ?_, srt FP.enc (M.attach.map fun x => ⟨x.1.2, hfull x.1 x.2⟩), fun x hx => ?_, rfl⟩
        · rw [List.map_map]
          refine congrArg PyData.list ?_
          have : (FP.enc ∘ fun x : { x // x ∈ M } => (⟨x.1.2, hfull x.1 x.2⟩ : FP)) = (fun x : Nat × Pr => PyData.tuple [dN x.2.size, x.2.enc]) ∘ Subtype.val := rfl
          rw [this, ← List.map_map, List.attach_map_subtype_val]
        · obtain ⟨y, hy, rfl⟩ := List.mem_map.mp hx
          rw [depth_fp]
          have h15 := hM.sz15 h4 y.2
          have hd := y.1.2.depth_le_size
          show y.1.2.depth + 1 ≤ 100
          omega
        · rw [List.length_map, List.length_attach]
          omega
        · obtain ⟨y, hy, rfl⟩ := List.mem_map.mp ((srt_perm2 FP.enc _).mem_iff.mp hx)
          exact ⟨hM.ok _ y.2, hM.sz15 h4 y.2⟩
    · exact w_lst (wa_nil ⟨szl (Nat.zero_le _), [], fun x hx => (nomatch hx), rfl⟩)
  obtain ⟨L, hL, rfl⟩ := hs
  have hbest : R (optE bo) := by
    cases bo with
    | none => exact qn
    | some p => exact q p (hbo p rfl).1 (hbo p rfl).2
  have hdL := depth_fps L 15 fun x hx => by
    have h15 := (hL x hx).2
    have hd := x.1.depth_le_size
    omega
  refine wss_one (ws_ret (w_if (WT.mono (Q := fun tt => tt = true → ∃ x, L[0]? = some x ∧ x.1.size ≤ sz) ?_ fun tt htt => ?_)))
  · refine wt_pw (ww_and (wt_cmp (w_var 4 rfl (w_lst (wa_nil ⟨szl (Nat.zero_le _), od_neD hr.1.units (nodict_fps _) rfl (shaped_of (lay_fps _) (by rw [PyData.depth]; omega)) rfl ⟨_, rfl, ?_⟩⟩)))))
    rw [eqv_empty]
    cases L with
    | nil => exact fun h => (nomatch h)
    | cons x L =>
      refine ww_and1 (wt_cmp (w_ix (w_ix (w_var 4 rfl (w_int (xd_lst (i := 0) rfl (w_int (xd_tup (i := 0) rfl (w_var 2 rfl (od_le ⟨_, rfl, fun h => ⟨x, rfl, ?_⟩⟩))))))))))
      exact Int.ofNat_le.mp (of_decide_eq_true h)
  · cases tt with
    | true =>
      obtain ⟨x, hx, hxz⟩ := htt rfl
      rw [if_pos rfl]
      exact w_ix (w_ix (w_var 4 rfl (w_int (xd_lst (i := 0) (by rw [List.getElem?_map, hx]; rfl) (w_int (xd_tup (i := 1) rfl ⟨q x.1 (hL x (List.mem_of_getElem? hx)).1 hxz, _, rfl, BagLike.bag⟩))))))
    | false =>
      rw [if_neg Bool.false_ne_true]
      exact w_var 6 rfl ⟨hbest, _, rfl, BagLike.bag⟩
end
end K3
end

section
set_option autoImplicit true
set_option Elab.async false
set_option linter.all false
set_option maxRecDepth 100000
set_option maxHeartbeats 1000000
namespace K3
open PySem PySem.Spec PyProof.Rows L2
theorem cnts_nil (t : Tb) (ks : List Nat) : cnts t [] ks = 1 := by
  rw [cnts]
  intro p ps k ks h
  cases h
theorem cnts_nil2 (t : Tb) (ps : List Pr) : cnts t ps [] = 1 := by
  cases ps with
  | nil => exact cnts_nil t []
  | cons p ps =>
    rw [cnts]
    intro p ps k ks _ h
    cases h
theorem cnts_snoc (t : Tb) : ∀ (ps : List Pr) (ks : List Nat) (p : Pr) (k : Nat), ps.length = ks.length → cnts t (ps ++ [p]) (ks ++ [k]) = cnts t ps ks * cnt t p k
  | [], [], p, k, _ => by rw [List.nil_append, List.nil_append, cnts, cnts_nil]; omega
  | [], _ :: _, _, _, h => by simp at h
  | _ :: _, [], _, _, h => by simp at h
  | q :: ps, j :: ks, p, k, h => by
    rw [List.cons_append, List.cons_append, cnts, cnts, cnts_snoc t ps ks p k (by simpa using h), Nat.mul_assoc]
theorem pow24 {n : Nat} (h : n ≤ 10) : 24 ^ n ≤ 63403380965376 := Nat.le_trans (Nat.pow_le_pow_right (by decide) h) (by decide)
section
variable {P : Program} {w : World} {K : PySem.W.Frag} {mg : Str → Option Value} {base : Heap}
/-! ### _law_counted -/
def spCounted (n : Nat) : Spf := fun ds R => ∃ (many most : Nat) (t : Tb) (p : Pr), ds = [t.enc, p.enc] ∧ TbOk many most t ∧ many ≤ 4 ∧ PrOk t.signs p ∧ p.depth ≤ n ∧ p.size ≤ 10 ∧ R (tree t p)
abbrev n39 : List Str := ["_law_table_here", "_law_program_here", "_law_found", "_law_its", "_law_sign", "_law_parts", "_law_kind", "_law_many", "_law_part", "_law_at"]
theorem sc39 : FnScope n39 ["_law_table_here", "_law_program_here"] (defScope (top 39)) := ⟨rfl, rfl, rfl, by decide +kernel, rfl, by decide +kernel, by decide +kernel⟩
theorem ok_counted (T : Tx K mg) : ∀ n : Nat, FnN P w K mg base (n + 1) "_law_counted" ["_law_table_here", "_law_program_here"] (spD K (spCounted n)) := by
  intro n
  induction n with
  | zero => exact go T 0 (fun _ h => by omega)
  | succ n ih => exact go T (n + 1) (fun m h => by
      have e : m = n := by omega
      subst e
      exact ih)
where
  go (T : Tx K mg) (n : Nat) (ih : ∀ m, n = m + 1 → FnN P w K mg base (m + 1) "_law_counted" ["_law_table_here", "_law_program_here"] (spD K (spCounted m))) : FnN P w K mg base (n + 1) "_law_counted" ["_law_table_here", "_law_program_here"] (spD K (spCounted n)) := by
    obtain ⟨f, fd, F, hmg⟩ := T.top (x := "_law_counted") (j := 39) 28
    refine fnD_of F hmg sc39 (fun _ _ _ _ _ _ us hl => match us, hl with | [_, _], _ => rfl) (fun ds R h => by obtain ⟨_, _, _, _, rfl, _⟩ := h; rfl) fun cdv A outer s H E ds R hr h => ?_
    obtain ⟨many, most, t, p, rfl, ht, h4, hp, hd, hz, q⟩ := h
    cases p with
    | hole => exact absurd hp.2 (by rw [Pr.full]; exact fun h => h)
    | node sg ps =>
      obtain ⟨m, rfl⟩ : ∃ m, n = m + 1 := ⟨n - 1, by rw [Pr.depth] at hd; omega⟩
      obtain ⟨hpa, hpf⟩ := hp
      rw [Pr.AllS] at hpa
      rw [Pr.full] at hpf
      rw [Pr.enc_node]
      have hz' := hz
      rw [Pr.size] at hz'
      have hpl := Pr.length_le_sizes ps
      have hm4 : t.many ≤ 4 := by rw [ht.m]; exact h4
      refine wss_cons (ws_if (wt_cmp (w_var 1 rfl (w_none (od_is ⟨_, rfl, wss_nil fun _ => ?_⟩)))))
      refine wss_cons (ws_par2 2 3 sc39.nd (wva_cons (wv_rep (w_lst (wa_cons (w_int (wa_nil ⟨szl (Nat.le_of_ble_eq_true rfl), _, rfl, w_ix (w_var 0 rfl (w_int (xd_tup (i := 0) rfl ⟨t.many, rfl, by omega, wva_cons (wv_dat ?_)⟩)))⟩)))))))
      refine w_lcN 8 [("_law_part", 8)] sc39.nd (blkOk_by (N := n39) (sc := defScope (top 39)) (by decide +kernel)) (idle1 rfl) ?_
      refine wi_tup (w_sl (w_var 1 rfl (w_int ⟨1, rfl, sd_tup ⟨ps.map Pr.enc, by rw [cutD_tail], ?_⟩⟩)))
      refine lcq_map ps Pr.enc (tree t) (slt (by omega)) (fun a ha => ?_) (wva_nil ⟨rfl, fun _ => ?_⟩)
      · refine ⟨_, rfl, fun s H C cl fp => w_call (ih m rfl) hr (Nat.le_refl _) (wa_cons (w_var 0 rfl (wa_cons (w_var 8 rfl (wa_nil ⟨many, most, t, a, rfl, ht, h4, ⟨Pr.allSs_mem hpa.2 ha, Pr.fulls_mem hpf ha⟩, Pr.depth_part hd ha, Nat.le_trans (Pr.size_mem_node ha) hz, rfl⟩)))))⟩
      · refine wss_cons (ws_forT3 4 5 6 sc39.nd (wi_tup (w_ix (w_var 0 rfl (w_int (xd_tup (i := 2) rfl ⟨_, rfl, ?_⟩)))) (p := true)))
        let cn : List En → Nat → Nat := fun es k => ((es.filter fun e => decide (e.s = sg) && decide (e.k = k)).map fun e => cnts t ps e.ps).sum
        refine forQ_map t.ents En.enc (fun pre S' => ∃ (a c d g i j : Sv K), S' = [.dat t.enc, .dat (.tuple (dN sg :: ps.map Pr.enc)), .own ((List.range t.many).map fun k => dN (cn pre k)), .dat (.list (ps.map (tree t))), a, c, d, g, i, j]) ⟨.no, .no, .no, .no, .no, .no, ?_⟩ (fun pre e post S' ee hl hs => ?_) (fun S' hl hs => fun _ => ?_)
        · have e1 : (List.range t.many).map (fun k => dN (cn [] k)) = List.replicate t.many (PyData.int 0) := by
            refine List.ext_getElem? fun i => ?_
            rw [List.getElem?_map, List.getElem?_replicate]
            by_cases hi : i < t.many
            · rw [List.getElem?_range hi, if_pos hi]
              rfl
            · rw [if_neg hi, List.getElem?_eq_none_iff.mpr (by rw [List.length_range]; omega)]
              rfl
          rw [e1]
          rfl
        · obtain ⟨a, c, d, g, i, j, rfl⟩ := hs
          have he : e ∈ t.ents := by rw [ee]; simp
          have hE := ht.e e he
          refine ⟨_, ⟨[dN e.s, tN e.ps, dN e.k], rfl, rfl, rfl⟩, wss_one (ws_if (wt_cmp (w_var 4 rfl (w_ix (w_var 1 rfl (w_int (xd_tup (i := 0) rfl (od_eq ⟨_, rfl, ite_dec (fun hc => ?_) fun hc => ?_⟩))))))))⟩
          · have hes : e.s = sg := Int.ofNat.inj hc
            have hal : e.ps.length = ps.length := by
              have h1 := hE.1
              rw [hes, hpa.1] at h1
              exact (Option.some.inj h1).symm
            have hb : ∀ j : Nat, cnts t (ps.take j) (e.ps.take j) ≤ 63403380965376 := fun j => by
              refine Nat.le_trans (cnts_le t ht.n _ _) (pow24 ?_)
              have h1 : Pr.sizes (ps.take j) ≤ Pr.sizes ps := by
                have h2 := Pr.sizes_append (ps.take j) (ps.drop j)
                rw [List.take_append_drop] at h2
                omega
              omega
            refine wss_cons (ws_set 7 sc39.nd (w_int fun _ => ?_))
            refine wss_cons (ws_forT2 9 8 sc39.nd (wi_enumT T (w_var 5 rfl ⟨_, rfl, ?_⟩)))
            have ez : (e.ps.map dN).zipIdx.map (fun p => PyData.tuple [.int (p.2 : Int), p.1]) = e.ps.zipIdx.map fun p => PyData.tuple [dN p.2, dN p.1] := by
              rw [List.zipIdx_map, List.map_map]
              rfl
            rw [ez]
            refine forQ_map e.ps.zipIdx (fun p => PyData.tuple [dN p.2, dN p.1]) (fun pr S' => ∃ (i j : Sv K), S' = [.dat t.enc, .dat (.tuple (dN sg :: ps.map Pr.enc)), .own ((List.range t.many).map fun k => dN (cn pre k)), .dat (.list (ps.map (tree t))), .dat (dN e.s), .dat (tN e.ps), .dat (dN e.k), .dat (dN (cnts t (ps.take pr.length) (e.ps.take pr.length))), i, j]) ⟨i, j, ?_⟩ (fun pr x post' S' ee' hl hs => ?_) (fun S' hl hs => fun _ => ?_)
            · rw [List.length_nil, List.take_zero, cnts_nil]
              rfl
            · obtain ⟨i, j, rfl⟩ := hs
              obtain ⟨kp, ix⟩ := x
              have hii : ix = pr.length ∧ e.ps[pr.length]? = some kp := by
                have h1 : e.ps.zipIdx[pr.length]? = some (kp, ix) := by rw [ee', List.getElem?_append_right (Nat.le_refl _), Nat.sub_self]; rfl
                rw [List.getElem?_zipIdx] at h1
                cases e2 : e.ps[pr.length]? with
                | none =>
                  rw [e2] at h1
                  cases h1
                | some x =>
                  rw [e2] at h1
                  simp only [Option.map_some, Option.some.injEq, Prod.mk.injEq] at h1
                  exact ⟨by omega, by rw [h1.1]⟩
              have hlt : pr.length < e.ps.length := (List.getElem?_eq_some_iff.mp hii.2).1
              obtain ⟨pa, hpa2⟩ : ∃ pa, ps[pr.length]? = some pa := ⟨ps[pr.length], List.getElem?_eq_getElem (by omega)⟩
              have hpam := List.mem_of_getElem? hpa2
              obtain ⟨dd, hdd⟩ := tree_head t pa (Pr.fulls_mem hpf hpam)
              have hkm : kp < t.many := by
                rw [ht.m]
                exact hE.2.1 kp (List.mem_of_getElem? hii.2)
              have hstep : cnts t (ps.take pr.length) (e.ps.take pr.length) * cnt t pa kp = cnts t (ps.take (pr.length + 1)) (e.ps.take (pr.length + 1)) := by
                rw [List.take_add_one, List.take_add_one, hpa2, hii.2]
                exact (cnts_snoc t _ _ pa kp (by rw [List.length_take, List.length_take]; omega)).symm
              refine ⟨_, ⟨[dN ix, dN kp], rfl, rfl, rfl⟩, wss_one (ws_set 7 sc39.nd (w_op (w_var 7 rfl (w_ix (w_ix (w_ix (w_var 3 rfl (w_var 9 rfl (xd_lst (d := tree t pa) (by rw [hii.1, List.getElem?_map, hpa2]; rfl) ?_)))))))))⟩
              rw [hdd]
              refine w_int (xd_tup (i := 0) rfl (w_var 8 rfl (xd_lst (d := dN (cnt t pa kp)) (by rw [List.getElem?_map, List.getElem?_range hkm]; rfl) (od_mul (.inl ⟨by omega, ?_⟩) ⟨.dat (dN kp), .dat (dN ix), ?_⟩))))
              · have := hb pr.length
                exact Int.lt_of_le_of_lt (Int.ofNat_le.mpr this) (by decide)
              · have e1 : ((cnts t (ps.take pr.length) (e.ps.take pr.length) : Nat) : Int) * ((cnt t pa kp : Nat) : Int) = ((cnts t (ps.take (pr.length + 1)) (e.ps.take (pr.length + 1)) : Nat) : Int) := by
                  rw [← hstep]
                  rfl
                rw [e1, List.length_append, List.length_singleton]
                rfl
            · obtain ⟨i, j, rfl⟩ := hs
              have hlen : e.ps.zipIdx.length = ps.length := by rw [List.length_zipIdx, hal]
              have hfull : cnts t (ps.take e.ps.zipIdx.length) (e.ps.take e.ps.zipIdx.length) = cnts t ps e.ps := by
                rw [hlen, List.take_length, ← hal, List.take_length]
              rw [hfull]
              have hkm : e.k < t.many := by rw [ht.m]; exact hE.2.2
              refine wss_one (ws_augO 2 ip_add OwnL.own rfl (w_var 6 rfl ⟨e.k, _, rfl, by rw [List.getElem?_map, List.getElem?_range hkm]; rfl, w_var 7 rfl ⟨_, rfl, .dat (dN e.s), .dat (tN e.ps), .dat (dN e.k), .dat (dN (cnts t ps e.ps)), i, j, ?_⟩⟩))
              have e1 : ((List.range t.many).map fun k => dN (cn pre k)).set e.k (.int (((cn pre e.k : Nat) : Int) + ((cnts t ps e.ps : Nat) : Int))) = (List.range t.many).map fun k => dN (cn (pre ++ [e]) k) := by
                refine List.ext_getElem? fun i => ?_
                rw [List.getElem?_set, List.length_map, List.length_range, List.getElem?_map, List.getElem?_map]
                by_cases hi : e.k = i
                · subst hi
                  rw [if_pos rfl, if_pos hkm, List.getElem?_range hkm]
                  refine congrArg some ?_
                  show _ = dN (cn (pre ++ [e]) e.k)
                  have : cn (pre ++ [e]) e.k = cn pre e.k + cnts t ps e.ps := by
                    show ((List.filter _ (pre ++ [e])).map _).sum = _
                    rw [List.filter_append, List.map_append, List.sum_append, List.filter_cons, if_pos (by rw [hes]; simp)]
                    simp
                    rfl
                  rw [this]
                  rfl
                · rw [if_neg hi]
                  by_cases hlt : i < t.many
                  · rw [List.getElem?_range hlt]
                    refine congrArg some ?_
                    show dN (cn pre i) = dN (cn (pre ++ [e]) i)
                    have : cn (pre ++ [e]) i = cn pre i := by
                      show ((List.filter _ (pre ++ [e])).map _).sum = _
                      rw [List.filter_append, List.map_append, List.sum_append, List.filter_cons, if_neg (by rw [decide_eq_false hi]; simp)]
                      simp
                      rfl
                    rw [this]
                  · rw [List.getElem?_eq_none_iff.mpr (by rw [List.length_range]; omega)]
                    rfl
              show _ = [Sv.dat t.enc, .dat (.tuple (dN sg :: ps.map Pr.enc)), .own ((List.range t.many).map fun k => dN (cn (pre ++ [e]) k)), .dat (.list (ps.map (tree t))), .dat (dN e.s), .dat (tN e.ps), .dat (dN e.k), .dat (dN (cnts t ps e.ps)), i, j]
              rw [← e1]
              rfl
          · refine wss_nil ⟨.dat (dN e.s), .dat (tN e.ps), .dat (dN e.k), g, i, j, ?_⟩
            have hne : e.s ≠ sg := fun h => hc (by rw [h])
            have e1 : ∀ k, cn (pre ++ [e]) k = cn pre k := fun k => by
              show ((List.filter _ (pre ++ [e])).map _).sum = _
              rw [List.filter_append, List.map_append, List.sum_append, List.filter_cons, if_neg (by rw [decide_eq_false hne]; simp)]
              simp
              rfl
            show _ = [Sv.dat t.enc, .dat (.tuple (dN sg :: ps.map Pr.enc)), .own ((List.range t.many).map fun k => dN (cn (pre ++ [e]) k)), .dat (.list (ps.map (tree t))), .dat (dN e.s), .dat (tN e.ps), .dat (dN e.k), g, i, j]
            simp only [e1]
            rfl
        · obtain ⟨a, c, d, g, i, j, rfl⟩ := hs
          refine wss_frz 2 rfl (wss_one (ws_ret (w_tup (wa_cons (w_var 2 rfl (wa_cons (w_var 3 rfl (wa_nil ⟨szl (Nat.le_of_ble_eq_true rfl), ?_⟩))))))))
          have e1 : tree t (.node sg ps) = .tuple [.list ((List.range t.many).map fun k => dN (cn t.ents k)), .list (ps.map (tree t))] := by
            rw [tree, trees_eq]
            refine congrArg PyData.tuple ?_
            have : (fun k => dN (cnt t (.node sg ps) k)) = fun k => dN (cn t.ents k) := by
              funext k
              rw [cnt]
              rfl
            rw [this]
          rw [e1] at q
          exact q
end
end K3
end

section
set_option autoImplicit true
set_option Elab.async false
set_option linter.all false
set_option maxRecDepth 100000
set_option maxHeartbeats 1000000
/-! Rows: the readings as the law lists them. -/
namespace K3
open PySem PySem.Spec PyProof.Rows L2
mutual
/-- the readings with the kind k on top, entry by entry -/
def rows (t : Tb) : Pr → Nat → List (List Nat)
  | .hole, k => [[k]]
  | .node s ps, k => (t.at s k).flatMap fun e => (rowss t ps e.ps).map fun r => k :: r
def rowss (t : Tb) : List Pr → List Nat → List (List Nat)
  | p :: ps, k :: ks => (rows t p k).flatMap fun r => (rowss t ps ks).map fun r' => r ++ r'
  | _, _ => [[]]
end
theorem rowss_nil (t : Tb) (ks : List Nat) : rowss t [] ks = [[]] := by
  rw [rowss]
  intro p ps k ks h
  cases h
theorem rowss_nil2 (t : Tb) (ps : List Pr) : rowss t ps [] = [[]] := by
  cases ps with
  | nil => exact rowss_nil t []
  | cons p ps =>
    rw [rowss]
    intro p ps k ks _ h
    cases h
theorem flatMap_len' {α β : Type} (xs : List α) (f : α → List β) (g : α → Nat) (h : ∀ x, (f x).length = g x) : (xs.flatMap f).length = (xs.map g).sum := by
  induction xs with
  | nil => rfl
  | cons x xs ih => rw [List.flatMap_cons, List.length_append, ih, h, List.map_cons, List.sum_cons]
mutual
theorem rows_len (t : Tb) : ∀ (p : Pr) (k : Nat), (rows t p k).length = cnt t p k
  | .hole, k => by rw [rows, cnt]; rfl
  | .node s ps, k => by
    rw [rows, cnt]
    exact flatMap_len' _ _ _ fun e => by rw [List.length_map, rowss_len t ps e.ps]
theorem rowss_len (t : Tb) : ∀ (ps : List Pr) (ks : List Nat), (rowss t ps ks).length = cnts t ps ks
  | [], ks => by rw [rowss_nil, cnts_nil]; rfl
  | p :: ps, [] => by rw [rowss_nil2, cnts_nil2]; rfl
  | p :: ps, k :: ks => by
    rw [rowss, cnts, flatMap_len _ _ (cnts t ps ks) (fun r => by rw [List.length_map, rowss_len t ps ks]), rows_len t p k]
end
theorem flatMap_cg {α β : Type} {f g : α → List β} : ∀ {xs : List α}, (∀ x, x ∈ xs → f x = g x) → xs.flatMap f = xs.flatMap g
  | [], _ => rfl
  | x :: xs, h => by rw [List.flatMap_cons, List.flatMap_cons, h x List.mem_cons_self, flatMap_cg fun y hy => h y (List.mem_cons_of_mem _ hy)]
/-- what joining does, one part more -/
theorem rowss_snoc (t : Tb) : ∀ (ps : List Pr) (ks : List Nat) (p : Pr) (k : Nat), ps.length = ks.length → rowss t (ps ++ [p]) (ks ++ [k]) = (rowss t ps ks).flatMap fun r => (rows t p k).map fun r' => r ++ r'
  | [], [], p, k, _ => by
    rw [List.nil_append, List.nil_append, rowss, rowss_nil]
    simp
  | [], _ :: _, _, _, h => by simp at h
  | _ :: _, [], _, _, h => by simp at h
  | q :: ps, j :: ks, p, k, h => by
    rw [List.cons_append, List.cons_append, rowss, rowss, rowss_snoc t ps ks p k (by simpa using h), List.flatMap_assoc]
    refine flatMap_cg fun r _ => ?_
    rw [List.map_flatMap, List.flatMap_map]
    refine flatMap_cg fun r' _ => ?_
    rw [List.map_map]
    refine List.map_congr_left fun r'' _ => ?_
    simp only [Function.comp, List.append_assoc]
mutual
theorem rows_size (t : Tb) : ∀ (p : Pr) (k : Nat) (r : List Nat), r ∈ rows t p k → r.length ≤ p.size
  | .hole, k, r, h => by
    rw [rows, List.mem_singleton] at h
    rw [h, Pr.size]
    exact Nat.le_refl _
  | .node s ps, k, r, h => by
    rw [rows] at h
    obtain ⟨e, _, he⟩ := List.mem_flatMap.mp h
    obtain ⟨r', hr', rfl⟩ := List.mem_map.mp he
    have := rowss_size t ps e.ps r' hr'
    rw [Pr.size, List.length_cons]
    omega
theorem rowss_size (t : Tb) : ∀ (ps : List Pr) (ks : List Nat) (r : List Nat), r ∈ rowss t ps ks → r.length ≤ Pr.sizes ps
  | [], ks, r, h => by
    rw [rowss_nil, List.mem_singleton] at h
    rw [h]
    exact Nat.zero_le _
  | p :: ps, [], r, h => by
    rw [rowss_nil2, List.mem_singleton] at h
    rw [h]
    exact Nat.zero_le _
  | p :: ps, k :: ks, r, h => by
    rw [rowss] at h
    obtain ⟨r1, h1, h2⟩ := List.mem_flatMap.mp h
    obtain ⟨r2, h3, rfl⟩ := List.mem_map.mp h2
    have a1 := rows_size t p k r1 h1
    have a2 := rowss_size t ps ks r2 h3
    rw [List.length_append, Pr.sizes]
    omega
end
end K3
end

section
set_option autoImplicit true
set_option Elab.async false
set_option linter.all false
set_option maxRecDepth 100000
/-! The nodes of a program, as `nodes_in` tells them. -/
namespace K3
open PySem PySem.Spec PyProof.Rows L2
abbrev Nd := Option Nat × List Nat
def Nd.enc (q : Nd) : D := .tuple [(match q.1 with | some s => dN s | none => .none), tN q.2]
def Nd.up (b : Nat) (q : Nd) : Nd := (q.1, q.2.map (b + ·))
mutual
def nodes : Pr → List Nd
  | .hole => [(none, [])]
  | .node s ps => (some s, (nodess ps 1).1) :: (nodess ps 1).2
def nodess : List Pr → Nat → List Nat × List Nd
  | [], _ => ([], [])
  | p :: ps, b => (b :: (nodess ps (b + p.size)).1, (nodes p).map (Nd.up b) ++ (nodess ps (b + p.size)).2)
end
theorem nodes_length (p : Pr) : (nodes p).length = p.size := by
  refine Pr.ind' (P := fun p => (nodes p).length = p.size) ?_ ?_ p
  · rw [nodes, Pr.size]; rfl
  · intro s ps ih
    have go : ∀ (ps : List Pr) (b : Nat), (∀ p, p ∈ ps → (nodes p).length = p.size) → (nodess ps b).2.length = Pr.sizes ps := by
      intro ps
      induction ps with
      | nil => intro b _; rw [nodess, Pr.sizes]; rfl
      | cons q qs ihq =>
        intro b h
        rw [nodess, Pr.sizes, List.length_append, List.length_map, h q List.mem_cons_self, ihq _ fun p hp => h p (List.mem_cons_of_mem _ hp)]
    rw [nodes, Pr.size, List.length_cons, go ps 1 ih]
    omega
theorem nodess_len1 : ∀ (ps : List Pr) (b : Nat), (nodess ps b).1.length = ps.length
  | [], b => by rw [nodess]; rfl
  | p :: ps, b => by rw [nodess, List.length_cons, nodess_len1 ps, List.length_cons]
theorem nodess_len2 : ∀ (ps : List Pr) (b : Nat), (nodess ps b).2.length = Pr.sizes ps
  | [], b => by rw [nodess, Pr.sizes]; rfl
  | p :: ps, b => by rw [nodess, Pr.sizes, List.length_append, List.length_map, nodes_length, nodess_len2 ps]
theorem nodess_snoc : ∀ (ps : List Pr) (p : Pr) (b : Nat), nodess (ps ++ [p]) b = ((nodess ps b).1 ++ [b + Pr.sizes ps], (nodess ps b).2 ++ (nodes p).map (Nd.up (b + Pr.sizes ps)))
  | [], p, b => by
    rw [List.nil_append, nodess, nodess, nodess, Pr.sizes]
    simp
  | q :: ps, p, b => by
    rw [List.cons_append, nodess, nodess, nodess_snoc ps p (b + q.size), Pr.sizes]
    simp [Nat.add_assoc]
theorem nodess_mem {x : Nd} : ∀ {ps : List Pr} {b : Nat}, x ∈ (nodess ps b).2 → ∃ p y c, p ∈ ps ∧ y ∈ nodes p ∧ x = Nd.up c y
  | [], b, h => by rw [nodess] at h; cases h
  | p :: ps, b, h => by
    rw [nodess] at h
    rcases List.mem_append.mp h with h | h
    · obtain ⟨y, hy, rfl⟩ := List.mem_map.mp h
      exact ⟨p, y, b, List.mem_cons_self, hy, rfl⟩
    · obtain ⟨q, y, c, hq, hy, e⟩ := nodess_mem h
      exact ⟨q, y, c, List.mem_cons_of_mem _ hq, hy, e⟩
theorem nodes_tops (p : Pr) : ∀ q, q ∈ nodes p → q.2.length ≤ p.size := by
  refine Pr.ind' (P := fun p => ∀ q, q ∈ nodes p → q.2.length ≤ p.size) ?_ ?_ p
  · intro q h
    rw [nodes, List.mem_singleton] at h
    subst h
    exact Nat.zero_le _
  · intro s ps ih q h
    rw [nodes] at h
    rw [Pr.size]
    rcases List.mem_cons.mp h with rfl | h
    · show (nodess ps 1).1.length ≤ _
      rw [nodess_len1]
      have := Pr.length_le_sizes ps
      omega
    · obtain ⟨p, y, c, hp, hy, rfl⟩ := nodess_mem h
      have h1 := ih p hp y hy
      have h2 := Pr.sizes_mem hp
      show (y.2.map _).length ≤ _
      rw [List.length_map]
      omega
end K3
end

section
set_option autoImplicit true
set_option Elab.async false
set_option linter.all false
set_option maxRecDepth 100000
set_option maxHeartbeats 1000000
namespace K3
open PySem PySem.Spec PyProof.Rows L2
/-! ### what the law keeps of the entries -/
theorem cnts_zero (t : Tb) : ∀ (ps : List Pr) (ks : List Nat) (i : Nat) (p : Pr) (k : Nat), ps[i]? = some p → ks[i]? = some k → cnt t p k = 0 → cnts t ps ks = 0
  | [], _, _, _, _, h, _, _ => by simp at h
  | _ :: _, [], _, _, _, _, h, _ => by simp at h
  | q :: ps, j :: ks, 0, p, k, h1, h2, h => by
    simp at h1 h2
    subst h1 h2
    rw [cnts, h, Nat.zero_mul]
  | q :: ps, j :: ks, i + 1, p, k, h1, h2, h => by
    rw [cnts, cnts_zero t ps ks i p k (by simpa using h1) (by simpa using h2) h, Nat.mul_zero]
theorem cnts_pos (t : Tb) : ∀ (ps : List Pr) (ks : List Nat), (∀ (i : Nat) (p : Pr) (k : Nat), ps[i]? = some p → ks[i]? = some k → cnt t p k ≠ 0) → 1 ≤ cnts t ps ks
  | [], ks, _ => by rw [cnts_nil]; exact Nat.le_refl _
  | _ :: _, [], _ => by rw [cnts_nil2]; exact Nat.le_refl _
  | q :: ps, j :: ks, h => by
    rw [cnts]
    have h1 := h 0 q j rfl rfl
    have h2 := cnts_pos t ps ks fun i p k a b => h (i + 1) p k (by simpa using a) (by simpa using b)
    exact Nat.mul_pos (Nat.pos_of_ne_zero h1) h2
/-- parts of what is not nothing -/
theorem cnts_take (t : Tb) (ps : List Pr) (ks : List Nat) (hl : ps.length = ks.length) (h : ∀ (i : Nat) (p : Pr) (k : Nat), ps[i]? = some p → ks[i]? = some k → cnt t p k ≠ 0) (i : Nat) : cnts t (ps.take i) (ks.take i) ≤ cnts t ps ks := by
  have step : ∀ i, cnts t (ps.take i) (ks.take i) ≤ cnts t (ps.take (i + 1)) (ks.take (i + 1)) := fun i => by
    by_cases hi : i < ps.length
    · have e1 := List.getElem?_eq_getElem hi
      have e2 := List.getElem?_eq_getElem (l := ks) (i := i) (by omega)
      rw [List.take_add_one, List.take_add_one, e1, e2]
      show _ ≤ cnts t (ps.take i ++ [ps[i]]) (ks.take i ++ [ks[i]])
      rw [cnts_snoc t _ _ _ _ (by rw [List.length_take, List.length_take]; omega)]
      exact Nat.le_mul_of_pos_right _ (Nat.pos_of_ne_zero (h i _ _ e1 e2))
    · rw [List.take_of_length_le (by omega), List.take_of_length_le (by omega), List.take_of_length_le (by omega), List.take_of_length_le (by omega)]
      exact Nat.le_refl _
  have all : ∀ n, cnts t (ps.take i) (ks.take i) ≤ cnts t (ps.take (i + n)) (ks.take (i + n)) := fun n => by
    induction n with
    | zero => exact Nat.le_refl _
    | succ n ih => exact Nat.le_trans ih (step (i + n))
  have := all ps.length
  have e1 : ps.take (i + ps.length) = ps := List.take_of_length_le (by omega)
  have e2 : ks.take (i + ps.length) = ks := List.take_of_length_le (by omega)
  rw [e1, e2] at this
  exact this
theorem cnts_at (t : Tb) (ps : List Pr) (ks : List Nat) (hl : ps.length = ks.length) (h : ∀ (i : Nat) (p : Pr) (k : Nat), ps[i]? = some p → ks[i]? = some k → cnt t p k ≠ 0) {i : Nat} {p : Pr} {k : Nat} (h1 : ps[i]? = some p) (h2 : ks[i]? = some k) : cnt t p k ≤ cnts t ps ks := by
  have hs := cnts_take t ps ks hl h (i + 1)
  rw [List.take_add_one, List.take_add_one, h1, h2] at hs
  have hs' : cnts t (ps.take i ++ [p]) (ks.take i ++ [k]) ≤ cnts t ps ks := hs
  rw [cnts_snoc t _ _ _ _ (by rw [List.length_take, List.length_take]; omega)] at hs'
  refine Nat.le_trans ?_ hs'
  have hp := cnts_pos t (ps.take i) (ks.take i) fun j q m a b => by
    by_cases hj : j < i
    · rw [List.getElem?_take_of_lt hj] at a b
      exact h j q m a b
    · rw [List.getElem?_eq_none_iff.mpr (by rw [List.length_take]; omega)] at a
      cases a
  exact Nat.le_mul_of_pos_left _ hp
/-- an entry none of whose parts is without readings -/
def liveE (t : Tb) (ps : List Pr) (e : En) : Bool := (e.ps.zipIdx.filter fun z => decide (cnt t (ps.getD z.2 .hole) z.1 = 0)).isEmpty
theorem liveE_iff {t : Tb} {ps : List Pr} {e : En} (h : liveE t ps e = true) {i : Nat} {p : Pr} {k : Nat} (h1 : ps[i]? = some p) (h2 : e.ps[i]? = some k) : cnt t p k ≠ 0 := by
  unfold liveE at h
  rw [List.isEmpty_iff] at h
  have hm : (k, i) ∈ e.ps.zipIdx := List.mem_of_getElem? (i := i) (by rw [List.getElem?_zipIdx, h2]; simp)
  have := List.filter_eq_nil_iff.mp h _ hm
  intro c
  refine this (decide_eq_true ?_)
  have e1 : ps.getD i .hole = p := by rw [List.getD_eq_getElem?_getD, h1]; rfl
  show cnt t (ps.getD i .hole) k = 0
  rw [e1]
  exact c
theorem liveE_not {t : Tb} {ps : List Pr} {e : En} (hl : e.ps.length = ps.length) (h : liveE t ps e = false) : rowss t ps e.ps = [] := by
  have hz : cnts t ps e.ps = 0 := by
    unfold liveE at h
    cases hf : e.ps.zipIdx.filter fun z => decide (cnt t (ps.getD z.2 .hole) z.1 = 0) with
    | nil =>
      rw [hf] at h
      cases h
    | cons z zs =>
      have hz : z ∈ e.ps.zipIdx.filter fun z => decide (cnt t (ps.getD z.2 .hole) z.1 = 0) := by rw [hf]; exact List.mem_cons_self
      obtain ⟨z1, z2⟩ := List.mem_filter.mp hz
      obtain ⟨j, hj⟩ := List.getElem?_of_mem z1
      rw [List.getElem?_zipIdx] at hj
      cases hk : e.ps[j]? with
      | none =>
        rw [hk] at hj
        cases hj
      | some k =>
        rw [hk] at hj
        have hj' : z = (k, j) := by simpa using hj.symm
        have hlt : j < ps.length := by
          rw [← hl]
          exact (List.getElem?_eq_some_iff.mp hk).1
        rw [hj'] at z2
        refine cnts_zero t ps e.ps j ps[j] k (List.getElem?_eq_getElem hlt) hk ?_
        have h3 := of_decide_eq_true z2
        have e1 : ps.getD j .hole = ps[j] := by rw [List.getD_eq_getElem?_getD, List.getElem?_eq_getElem hlt]; rfl
        have h4 : cnt t (ps.getD j .hole) k = 0 := h3
        rw [e1] at h4
        exact h4
  have := rowss_len t ps e.ps
  rw [hz] at this
  exact List.eq_nil_of_length_eq_zero this
end K3
end

section
set_option autoImplicit true
set_option Elab.async false
set_option linter.all false
set_option maxRecDepth 100000
set_option maxHeartbeats 1000000
namespace K3
open PySem PySem.Spec PyProof.Rows L2
def gdE (e : En) : D := .tuple [tN e.ps, dN e.k]
def rowsD (t : Tb) (p : Pr) (k : Nat) : D := .list ((rows t p k).map tN)
section
variable {P : Program} {w : World} {K : PySem.W.Frag} {mg : Str → Option Value} {base : Heap}
/-! ### _law_listed -/
def spListed (n : Nat) : Spf := fun ds R => ∃ (many most : Nat) (t : Tb) (p : Pr) (ns : List Nat), ds = [t.enc, p.enc, tree t p, .list (ns.map dN)] ∧ TbOk many most t ∧ many ≤ 4 ∧ PrOk t.signs p ∧ p.depth ≤ n ∧ p.size ≤ 10 ∧ ns.Nodup ∧ (∀ k, k ∈ ns → k < many ∧ cnt t p k ≤ 300) ∧ R (dicD (ns.map fun (k : Nat) => (((k : Nat) : Int), rowsD t p k)))
abbrev n40 : List Str := ["_law_table_here", "_law_program_here", "_law_tree", "_law_kinds", "_law_found", "_law_good", "_law_its", "_law_sign", "_law_parts", "_law_kind", "_law_at", "_law_part", "_law_rows"]
theorem sc40 : FnScope n40 ["_law_table_here", "_law_program_here", "_law_tree", "_law_kinds"] (defScope (top 40)) := ⟨rfl, rfl, rfl, by decide +kernel, rfl, by decide +kernel, by decide +kernel⟩
theorem zipIdx_enc (ks : List Nat) : (ks.map dN).zipIdx.map (fun p => PyData.tuple [.int (p.2 : Int), p.1]) = ks.zipIdx.map fun p => PyData.tuple [dN p.2, dN p.1] := by
  rw [List.zipIdx_map, List.map_map]
  rfl
theorem zipIdx_split {α : Type} {xs : List α} {pr post : List (α × Nat)} {x : α} {i : Nat} (e : xs.zipIdx = pr ++ (x, i) :: post) : i = pr.length ∧ xs[pr.length]? = some x := by
  have h1 : xs.zipIdx[pr.length]? = some (x, i) := by rw [e, List.getElem?_append_right (Nat.le_refl _), Nat.sub_self]; rfl
  rw [List.getElem?_zipIdx] at h1
  cases e2 : xs[pr.length]? with
  | none =>
    rw [e2] at h1
    cases h1
  | some x =>
    rw [e2] at h1
    simp only [Option.map_some, Option.some.injEq, Prod.mk.injEq] at h1
    exact ⟨by omega, by rw [h1.1]⟩
theorem lookL_map {α : Type} {g : Nat → List D} : ∀ {ns : List Nat} {k : Nat}, k ∈ ns → lookL (ns.map fun (n : Nat) => (((n : Nat) : Int), g n)) (k : Int) = some (g k)
  | [], _, h => by cases h
  | n :: ns, k, h => by
    unfold lookL
    rw [List.map_cons, List.find?_cons]
    by_cases e : n = k
    · subst e
      rw [decide_eq_true (show (((n : Int), g n) : Int × List D).1 = (n : Int) from rfl)]
      rfl
    · rw [decide_eq_false (show ¬ (((n : Int), g n) : Int × List D).1 = (k : Int) from fun h => e (Int.ofNat.inj h))]
      rcases List.mem_cons.mp h with c | c
      · exact absurd c.symm e
      · exact lookL_map (α := α) c
theorem updL_map {g : Nat → List D} {ns : List Nat} {k : Nat} {ys : List D} : updL (ns.map fun (n : Nat) => (((n : Nat) : Int), g n)) (k : Int) ys = ns.map fun (n : Nat) => (((n : Nat) : Int), if n = k then g n ++ ys else g n) := by
  unfold updL
  rw [List.map_map]
  refine List.map_congr_left fun n _ => ?_
  simp only [Function.comp]
  by_cases e : n = k
  · rw [if_pos (show ((n : Nat) : Int) = (k : Int) from congrArg Int.ofNat e), if_pos e]
  · rw [if_neg (show ¬ ((n : Nat) : Int) = (k : Int) from fun h => e (Int.ofNat.inj h)), if_neg e]
theorem flatMap_fil {α β : Type} {A B : α → Bool} {f : α → List β} : ∀ {es : List α}, (∀ e, e ∈ es → (B e = true → A e = true) ∧ (A e = true → B e = false → f e = [])) → (es.filter A).flatMap f = (es.filter B).flatMap f
  | [], _ => rfl
  | e :: es, h => by
    obtain ⟨h1, h2⟩ := h e List.mem_cons_self
    have ih := flatMap_fil (A := A) (B := B) (f := f) (es := es) fun x hx => h x (List.mem_cons_of_mem _ hx)
    rw [List.filter_cons, List.filter_cons]
    cases hB : B e with
    | true =>
      rw [if_pos (h1 hB), if_pos rfl, List.flatMap_cons, List.flatMap_cons, ih]
    | false =>
      rw [if_neg Bool.false_ne_true]
      cases hA : A e with
      | true => rw [if_pos rfl, List.flatMap_cons, h2 hA hB, ih]; rfl
      | false => rw [if_neg Bool.false_ne_true, ih]
theorem le_sum_mem {α : Type} {L : List α} {f : α → Nat} {x : α} (h : x ∈ L) : f x ≤ (L.map f).sum := by
  induction L with
  | nil => cases h
  | cons y L ih =>
    rw [List.map_cons, List.sum_cons]
    rcases List.mem_cons.mp h with e | h
    · rw [e]
      omega
    · have := ih h
      omega
theorem ints_nat : ∀ {ms : List Int}, (∀ k, k ∈ ms → ∃ n : Nat, k = (n : Int)) → ∃ ms' : List Nat, ms = ms'.map fun (n : Nat) => ((n : Nat) : Int)
  | [], _ => ⟨[], rfl⟩
  | m :: ms, h => by
    obtain ⟨n, rfl⟩ := h m List.mem_cons_self
    obtain ⟨ms', rfl⟩ := ints_nat (ms := ms) fun k hk => h k (List.mem_cons_of_mem _ hk)
    exact ⟨n :: ms', rfl⟩
theorem zipIdx_encP (ps : List Pr) : (ps.map Pr.enc).zipIdx.map (fun p => PyData.tuple [.int (p.2 : Int), p.1]) = ps.zipIdx.map fun p => PyData.tuple [dN p.2, p.1.enc] := by
  rw [List.zipIdx_map, List.map_map]
  rfl
theorem ok_listed (T : Tx K mg) : ∀ n : Nat, FnN P w K mg base (n + 2) "_law_listed" ["_law_table_here", "_law_program_here", "_law_tree", "_law_kinds"] (spD K (spListed n)) := by
  intro n
  induction n with
  | zero => exact go T 0 (fun _ h => by omega)
  | succ n ih => exact go T (n + 1) (fun m h => by
      have e : m = n := by omega
      subst e
      exact ih)
where
  go (T : Tx K mg) (n : Nat) (ih : ∀ m, n = m + 1 → FnN P w K mg base (m + 2) "_law_listed" ["_law_table_here", "_law_program_here", "_law_tree", "_law_kinds"] (spD K (spListed m))) : FnN P w K mg base (n + 2) "_law_listed" ["_law_table_here", "_law_program_here", "_law_tree", "_law_kinds"] (spD K (spListed n)) := by
    obtain ⟨f, fd, F, hmg⟩ := T.top (x := "_law_listed") (j := 40) 29
    refine fnD_of F hmg sc40 (fun _ _ _ _ _ _ us hl => match us, hl with | [_, _, _, _], _ => rfl) (fun ds R h => by obtain ⟨_, _, _, _, _, rfl, _⟩ := h; rfl) fun cdv A outer s H E ds R hr h => ?_
    obtain ⟨many, most, t, p, ns, rfl, ht, h4, hp, hd, hz, hnd, hns, q⟩ := h
    have hu : (A.deeper (envOfC "_law_listed" (defScope (top 40)) s.heap.objs.size f cdv)).units + 1 < cLine := L2.hu_of hr.1
    cases p with
    | hole => exact absurd hp.2 (by rw [Pr.full]; exact fun h => h)
    | node sg ps =>
      obtain ⟨m, rfl⟩ : ∃ m, n = m + 1 := ⟨n - 1, by rw [Pr.depth] at hd; omega⟩
      obtain ⟨hpa, hpf⟩ := hp
      rw [Pr.AllS] at hpa
      rw [Pr.full] at hpf
      rw [Pr.enc_node]
      have hz' := hz
      rw [Pr.size] at hz'
      have hpl := Pr.length_le_sizes ps
      have hm4 : t.many ≤ 4 := by rw [ht.m]; exact h4
      have htr : tree t (.node sg ps) = .tuple [.list ((List.range t.many).map fun k => dN (cnt t (.node sg ps) k)), .list (ps.map (tree t))] := by rw [tree, trees_eq]
      rw [htr]
      have hnl : ns.length ≤ 4 := Nat.le_trans (nodup_lt_len many ns hnd fun k hk => (hns k hk).1) h4
      let gd : En → Bool := fun e => decide (e.s = sg) && (decide (e.k ∈ ns) && liveE t ps e)
      have hgd : ∀ {es : List En} {e : En}, e ∈ es.filter gd → e ∈ es ∧ e.s = sg ∧ e.k ∈ ns ∧ liveE t ps e = true := fun {es e} h => by
        obtain ⟨a1, a2⟩ := List.mem_filter.mp h
        simp only [gd, Bool.and_eq_true, decide_eq_true_eq] at a2
        exact ⟨a1, a2.1, a2.2.1, a2.2.2⟩
      have hall : ∀ e, e ∈ t.ents → e.s = sg → e.ps.length = ps.length := fun e he hes => by
        have h1 := (ht.e e he).1
        rw [hes, hpa.1] at h1
        exact (Option.some.inj h1).symm
      -- good, its
      refine wss_cons (ws_if (wt_cmp (w_var 1 rfl (w_none (od_is ⟨_, rfl, wss_nil fun _ => ?_⟩)))))
      refine wss_mid (fun S' => S' = [.dat t.enc, .dat (.tuple (dN sg :: ps.map Pr.enc)), .dat (.tuple [.list ((List.range t.many).map fun k => dN (cnt t (.node sg ps) k)), .list (ps.map (tree t))]), .dat (.list (ns.map dN)), .no, .own [], .own [], .no, .no, .no, .no, .no, .no]) ?_ fun S' hl hs => ?_
      · exact ws_par2 5 6 sc40.nd (wva_cons (wv_lst (wa_nil ⟨szl (Nat.zero_le _), wva_cons (wv_lst (wa_nil ⟨szl (Nat.zero_le _), wva_nil ⟨rfl, rfl⟩⟩))⟩)))
      subst hs
      refine wss_mid (fun S' => ∃ a b c d e : Sv K, Fr a ∧ Fr b ∧ Fr c ∧ Fr d ∧ Fr e ∧ S' = [.dat t.enc, .dat (.tuple (dN sg :: ps.map Pr.enc)), .dat (.tuple [.list ((List.range t.many).map fun k => dN (cnt t (.node sg ps) k)), .list (ps.map (tree t))]), .dat (.list (ns.map dN)), .no, .own ((t.ents.filter gd).map gdE), .own [], a, b, c, d, e, .no]) ?_ fun S' hl hs => ?_
      · refine ws_forT3 7 8 9 sc40.nd (wi_tup (w_ix (w_var 0 rfl (w_int (xd_tup (i := 2) rfl ⟨_, rfl, ?_⟩)))) (p := true))
        refine forQ_map t.ents En.enc (fun pre S' => ∃ a b c d e : Sv K, Fr a ∧ Fr b ∧ Fr c ∧ Fr d ∧ Fr e ∧ S' = [.dat t.enc, .dat (.tuple (dN sg :: ps.map Pr.enc)), .dat (.tuple [.list ((List.range t.many).map fun k => dN (cnt t (.node sg ps) k)), .list (ps.map (tree t))]), .dat (.list (ns.map dN)), .no, .own ((pre.filter gd).map gdE), .own [], a, b, c, d, e, .no]) ⟨.no, .no, .no, .no, .no, .no, .no, .no, .no, .no, rfl⟩ (fun pre e post S' ee hl hs => ?_) (fun S' hl hs => hs)
        obtain ⟨a, b, c, d, e', fa, fb, fc, fd, fe, rfl⟩ := hs
        have he : e ∈ t.ents := by rw [ee]; simp
        have hprel : pre.length < 24 := by
          have h1 := congrArg List.length ee
          rw [List.length_append, List.length_cons] at h1
          have := ht.n
          omega
        have same : gd e = false → (pre ++ [e]).filter gd = pre.filter gd := fun h => by
          rw [List.filter_append, List.filter_cons, if_neg (by rw [h]; exact Bool.false_ne_true)]
          exact List.append_nil _
        refine ⟨_, ⟨[dN e.s, tN e.ps, dN e.k], rfl, rfl, rfl⟩, wss_one (ws_if (WT.mono (Q := fun tt => tt = (decide (e.s = sg) && decide (e.k ∈ ns))) ?_ fun tt htt => ?_))⟩
        · refine wt_pw (ww_and (wt_cmp (w_var 7 rfl (w_ix (w_var 1 rfl (w_int (xd_tup (i := 0) rfl (od_eq ⟨_, rfl, ?_⟩))))))))
          have hdec : decide (((e.s : Nat) : Int) = ((sg : Nat) : Int)) = decide (e.s = sg) := by
            rw [decide_eq_decide]
            exact ⟨fun h => Int.ofNat.inj h, fun h => by rw [h]⟩
          rw [hdec]
          refine ite_b (fun hc => ?_) fun hc => by rw [hc]; rfl
          rw [hc, Bool.true_and]
          refine ww_and1 (wt_cmp (w_var 9 rfl (w_var 3 rfl ?_)))
          rw [dN_map]
          refine od_inL ⟨_, rfl, ?_⟩
          rw [Bool.eq_iff_iff, List.contains_iff_mem, decide_eq_true_eq]
          exact ⟨fun h => by obtain ⟨x, hx, e⟩ := List.mem_map.mp h; rw [← Int.ofNat.inj e]; exact hx, fun h => List.mem_map.mpr ⟨_, h, rfl⟩⟩
        · cases tt with
          | false =>
            rw [if_neg Bool.false_ne_true]
            refine wss_nil ⟨.dat (dN e.s), .dat (tN e.ps), .dat (dN e.k), d, e', .dat, .dat, .dat, fd, fe, ?_⟩
            rw [same (by show (decide (e.s = sg) && (decide (e.k ∈ ns) && liveE t ps e)) = false; rw [← Bool.and_assoc, ← htt]; rfl)]
            rfl
          | true =>
            rw [if_pos rfl]
            have h2 := htt.symm
            rw [Bool.and_eq_true, decide_eq_true_eq, decide_eq_true_eq] at h2
            have hal := hall e he h2.1
            refine wss_one (ws_if (wt_cmp ?_))
            refine w_lcT2 (p := false) 10 11 [("_law_at", 10), ("_law_part", 11)] sc40.nd (blkOk_by (N := n40) (sc := defScope (top 40)) (by decide +kernel)) (idleF rfl fd (idle1F rfl fe)) ?_
            refine wi_enumT T (w_var 8 rfl ⟨_, rfl, ?_⟩)
            rw [zipIdx_enc]
            refine lcq_filter e.ps.zipIdx (fun p => PyData.tuple [dN p.2, dN p.1]) (fun z => decide (cnt t (ps.getD z.2 .hole) z.1 = 0)) (fun z => dN z.2) (slt (by rw [List.length_zipIdx, hal]; omega)) (fun z hzz => ?_) (w_lst (wa_nil ⟨szl (Nat.zero_le _), od_eqD hr.1.units ?_ rfl ?_ rfl ⟨_, rfl, ?_⟩⟩))
            · obtain ⟨k, i⟩ := z
              obtain ⟨jj, hj⟩ := List.getElem?_of_mem hzz
              rw [List.getElem?_zipIdx] at hj
              cases hk : e.ps[jj]? with
              | none =>
                rw [hk] at hj
                cases hj
              | some k' =>
                rw [hk] at hj
                have hj' : k' = k ∧ jj = i := by simpa using hj
                obtain ⟨rfl, rfl⟩ := hj'
                have hlt : jj < ps.length := by rw [← hal]; exact (List.getElem?_eq_some_iff.mp hk).1
                have e1 := List.getElem?_eq_getElem hlt
                have e2 : ps.getD jj .hole = ps[jj] := by rw [List.getD_eq_getElem?_getD, e1]; rfl
                obtain ⟨dd, hdd⟩ := tree_head t ps[jj] (Pr.fulls_mem hpf (List.getElem_mem hlt))
                have hkm : k' < t.many := by rw [ht.m]; exact (ht.e e he).2.1 k' (List.mem_of_getElem? hk)
                refine ⟨_, ⟨[dN jj, dN k'], rfl, rfl, rfl⟩, fun s H C cl fp => wts_one (wt_cmp (w_ix (w_ix (w_ix (w_ix (w_var 2 rfl (w_int (xd_tup (i := 1) rfl (w_var 10 rfl (xd_lst (d := tree t ps[jj]) (by rw [List.getElem?_map, e1]; rfl) ?_)))))))))), fun _ s H C cl fp => w_var 10 rfl rfl⟩
                rw [hdd]
                refine w_int (xd_tup (i := 0) rfl (w_var 11 rfl (xd_lst (d := dN (cnt t ps[jj] k')) (by rw [List.getElem?_map, List.getElem?_range hkm]; rfl) (w_int (od_eq ⟨_, rfl, ?_⟩)))))
                rw [decide_eq_decide, e2]
                exact ⟨fun h => Int.ofNat.inj h, fun h => by rw [h]; rfl⟩
            · have e0 : ∀ L : List (Nat × Nat), L.map (fun z => dN z.2) = (L.map (·.2)).map dN := fun L => by rw [List.map_map]; rfl
              rw [e0]
              exact nodict_ints _
            · have e0 : ∀ L : List (Nat × Nat), L.map (fun z => dN z.2) = (L.map (·.2)).map dN := fun L => by rw [List.map_map]; rfl
              rw [e0]
              exact shaped_lN _
            · rw [eqv_empty, List.isEmpty_map]
              refine ite_b (fun hc => ?_) fun hc => wss_nil ⟨.dat (dN e.s), .dat (tN e.ps), .dat (dN e.k), d, e', .dat, .dat, .dat, fd, fe, ?_⟩
              · have hg : gd e = true := by
                  show (decide (e.s = sg) && (decide (e.k ∈ ns) && liveE t ps e)) = true
                  rw [decide_eq_true h2.1, decide_eq_true h2.2]
                  exact hc
                refine wss_one (ws_append 5 rfl (by rw [List.length_map]; exact Nat.lt_of_le_of_lt (List.length_filter_le _ _) (by omega)) (w_tup (wa_cons (w_var 8 rfl (wa_cons (w_var 9 rfl (wa_nil ⟨szl (Nat.le_of_ble_eq_true rfl), .dat (dN e.s), .dat (tN e.ps), .dat (dN e.k), d, e', .dat, .dat, .dat, fd, fe, ?_⟩)))))))
                have e3 : (pre ++ [e]).filter gd = pre.filter gd ++ [e] := by
                  rw [List.filter_append, List.filter_cons, if_pos hg]
                  rfl
                rw [e3, List.map_append]
                rfl
              · rw [same (by show (decide (e.s = sg) && (decide (e.k ∈ ns) && liveE t ps e)) = false; rw [show liveE t ps e = false from hc, Bool.and_false, Bool.and_false])]
                rfl
      obtain ⟨a, b, c, d, e', fa, fb, fc, fd, fe, rfl⟩ := hs
      refine wss_frz 5 rfl ?_
      have hG24 : (t.ents.filter gd).length ≤ 24 := Nat.le_trans (List.length_filter_le _ _) ht.n
      have hcn : ∀ e, e ∈ t.ents.filter gd → cnts t ps e.ps ≤ 300 ∧ e.ps.length = ps.length := fun e he => by
        obtain ⟨g1, g2, g3, g4⟩ := hgd he
        refine ⟨?_, hall e g1 g2⟩
        have h1 := (hns e.k g3).2
        rw [cnt] at h1
        refine Nat.le_trans (le_sum_mem (f := fun e : En => cnts t ps e.ps) (x := e) ?_) h1
        refine List.mem_filter.mpr ⟨g1, ?_⟩
        rw [decide_eq_true g2, decide_eq_true rfl]
        rfl
      let Its : Nat → List D → Prop := fun i L => L.length = i ∧ ∀ j p, j < i → ps[j]? = some p → ∃ ms : List Nat, L[j]? = some (dicD (ms.map fun (k : Nat) => (((k : Nat) : Int), rowsD t p k))) ∧ ms.Nodup ∧ ∀ e k, e ∈ t.ents.filter gd → e.ps[j]? = some k → k ∈ ms
      refine wss_mid (fun S' => ∃ (L : List D) (a b c d e : Sv K), Its ps.length L ∧ Fr a ∧ Fr b ∧ Fr c ∧ Fr d ∧ Fr e ∧ S' = [.dat t.enc, .dat (.tuple (dN sg :: ps.map Pr.enc)), .dat (.tuple [.list ((List.range t.many).map fun k => dN (cnt t (.node sg ps) k)), .list (ps.map (tree t))]), .dat (.list (ns.map dN)), .no, .dat (.list ((t.ents.filter gd).map gdE)), .own L, a, b, c, d, e, .no]) ?_ fun S' hl hs => ?_
      · refine ws_forT2 10 11 sc40.nd (wi_enumT T (w_sl (w_var 1 rfl (w_int ⟨1, rfl, sd_tup ⟨ps.map Pr.enc, by rw [cutD_tail], ?_⟩⟩))))
        rw [zipIdx_encP]
        refine forQ_map ps.zipIdx (fun p => PyData.tuple [dN p.2, p.1.enc]) (fun pre S' => ∃ (L : List D) (a b c d e : Sv K), Its pre.length L ∧ Fr a ∧ Fr b ∧ Fr c ∧ Fr d ∧ Fr e ∧ S' = [.dat t.enc, .dat (.tuple (dN sg :: ps.map Pr.enc)), .dat (.tuple [.list ((List.range t.many).map fun k => dN (cnt t (.node sg ps) k)), .list (ps.map (tree t))]), .dat (.list (ns.map dN)), .no, .dat (.list ((t.ents.filter gd).map gdE)), .own L, a, b, c, d, e, .no]) ⟨[], a, b, c, d, e', ⟨rfl, fun j p hj => absurd hj (Nat.not_lt_zero _)⟩, fa, fb, fc, fd, fe, rfl⟩ (fun pre x post S' ee hl hs => ?_) (fun S' hl hs => ?_)
        · obtain ⟨L, a, b, c, d, e', hI, fa, fb, fc, fd, fe, rfl⟩ := hs
          obtain ⟨pa, i⟩ := x
          obtain ⟨hi, hpi⟩ := zipIdx_split ee
          have hilt : pre.length < ps.length := (List.getElem?_eq_some_iff.mp hpi).1
          have hpam := List.mem_of_getElem? hpi
          refine ⟨_, ⟨[dN i, pa.enc], rfl, rfl, rfl⟩, wss_one (ws_append 6 rfl (by rw [hI.1]; omega) (w_call (ih m rfl) hr (Nat.le_refl _) (wa_cons (w_var 0 rfl (wa_cons (w_var 11 rfl (wa_cons (w_ix (w_ix (w_var 2 rfl (w_int (xd_tup (i := 1) rfl (w_var 10 rfl (xd_lst (d := tree t pa) (by rw [hi, List.getElem?_map, hpi]; rfl) (wa_cons (w_sortedSet T rfl ?_))))))))))))))))⟩
          refine w_lcT2 (p := true) 8 9 [("_law_parts", 8), ("_law_kind", 9)] sc40.nd (blkOk_by (N := n40) (sc := defScope (top 40)) (by decide +kernel)) (idleF rfl fb (idle1F rfl fc)) ?_
          refine wi_list (w_var 5 rfl ⟨_, rfl, ?_⟩)
          refine lcq_map (t.ents.filter gd) gdE (fun e => dN (e.ps.getD i 0)) (slt (by omega)) (fun e he => ?_) ?_
          · have hlen := (hcn e he).2
            refine ⟨_, ⟨[tN e.ps, dN e.k], rfl, rfl, rfl⟩, fun s H C cl fp => w_ix (w_var 8 rfl (w_var 10 rfl (xd_tup (d := dN (e.ps.getD i 0)) ?_ rfl)))⟩
            rw [List.getElem?_map, getD_of (by omega) 0]
            rfl
          · refine ⟨((t.ents.filter gd).map fun e => e.ps.getD i 0).map fun (n : Nat) => ((n : Nat) : Int), by rw [List.map_map, List.map_map]; rfl, by rw [List.length_map, List.length_map]; omega, fun ms hms hmem => ?_⟩
            obtain ⟨ms', rfl⟩ := ints_nat (ms := ms) fun k hk => by
              obtain ⟨n, _, e⟩ := List.mem_map.mp ((hmem k).mp hk)
              exact ⟨n, e.symm⟩
            have hmem' : ∀ k : Nat, k ∈ ms' ↔ ∃ e, e ∈ t.ents.filter gd ∧ e.ps.getD i 0 = k := fun k => by
              have h1 := hmem (k : Int)
              have h2 : (k : Int) ∈ ms'.map (fun (n : Nat) => ((n : Nat) : Int)) ↔ k ∈ ms' := ⟨fun h => by obtain ⟨x, hx, e⟩ := List.mem_map.mp h; rw [← Int.ofNat.inj e]; exact hx, fun h => List.mem_map.mpr ⟨k, h, rfl⟩⟩
              rw [← h2, h1]
              constructor
              · intro h
                obtain ⟨x, hx, e⟩ := List.mem_map.mp h
                obtain ⟨e1, he1, rfl⟩ := List.mem_map.mp hx
                exact ⟨e1, he1, Int.ofNat.inj e⟩
              · rintro ⟨e1, he1, e2⟩
                exact List.mem_map.mpr ⟨k, List.mem_map.mpr ⟨e1, he1, e2⟩, rfl⟩
            have hnd' : ms'.Nodup := (List.pairwise_map.mp hms).imp fun h c => by
              rw [c] at h
              exact absurd h (Int.lt_irrefl _)
            refine wa_nil ⟨many, most, t, pa, ms', ?_, ht, h4, ⟨Pr.allSs_mem hpa.2 hpam, Pr.fulls_mem hpf hpam⟩, Pr.depth_part hd hpam, Nat.le_trans (Pr.size_mem_node hpam) hz, hnd', fun k hk => ?_, ?_⟩
            · rw [List.map_map]
              rfl
            · obtain ⟨e1, he1, hek⟩ := (hmem' k).mp hk
              obtain ⟨g1, g2, g3, g4⟩ := hgd he1
              have hlen := (hcn e1 he1).2
              have hg : e1.ps[pre.length]? = some k := by
                rw [← hek, hi]
                exact getD_of (by omega) 0
              refine ⟨(ht.e e1 g1).2.1 k (List.mem_of_getElem? hg), ?_⟩
              exact Nat.le_trans (cnts_at t ps e1.ps hlen.symm (fun i p k a b => liveE_iff g4 a b) hpi hg) (hcn e1 he1).1
            · refine ⟨L ++ [dicD (ms'.map fun (k : Nat) => (((k : Nat) : Int), rowsD t pa k))], a, b, c, .dat (dN i), .dat pa.enc, ⟨by rw [List.length_append, List.length_append, hI.1]; rfl, fun j p hj hpj => ?_⟩, fa, fb, fc, .dat, .dat, rfl⟩
              rw [List.length_append, List.length_singleton] at hj
              by_cases hjl : j < pre.length
              · obtain ⟨ms, m1, m2, m3⟩ := hI.2 j p hjl hpj
                exact ⟨ms, by rw [List.getElem?_append_left (by rw [hI.1]; exact hjl)]; exact m1, m2, m3⟩
              · have hje : j = pre.length := by omega
                subst hje
                rw [hpi] at hpj
                cases hpj
                refine ⟨ms', by rw [List.getElem?_append_right (by rw [hI.1]; exact Nat.le_refl _), hI.1, Nat.sub_self]; rfl, hnd', fun e1 k he1 hk => (hmem' k).mpr ⟨e1, he1, ?_⟩⟩
                rw [List.getD_eq_getElem?_getD, hi, hk]
                rfl
        · obtain ⟨L, a, b, c, d, e', hI, fa, fb, fc, fd, fe, rfl⟩ := hs
          rw [List.length_zipIdx] at hI
          exact ⟨L, a, b, c, d, e', hI, fa, fb, fc, fd, fe, rfl⟩
      obtain ⟨L, a, b, c, d, e', hI, fa, fb, fc, fd, fe, rfl⟩ := hs
      refine wss_frz 6 rfl ?_
      let rp : List En → Nat → List (List Nat) := fun es k => (es.filter fun e => decide (e.k = k)).flatMap fun e => (rowss t ps e.ps).map fun r => k :: r
      let St : List En → List (Int × List D) := fun es => ns.map fun (k : Nat) => (((k : Nat) : Int), (rp es k).map tN)
      refine wss_mid (fun S' => S' = [.dat t.enc, .dat (.tuple (dN sg :: ps.map Pr.enc)), .dat (.tuple [.list ((List.range t.many).map fun k => dN (cnt t (.node sg ps) k)), .list (ps.map (tree t))]), .dat (.list (ns.map dN)), .odl (St []), .dat (.list ((t.ents.filter gd).map gdE)), .dat (.list L), a, b, c, d, e', .no]) ?_ fun S' hl hs => ?_
      · refine ws_setV 4 sc40.nd (wv_newDL 9 [("_law_kind", 9)] T sc40.nd (blkOk_by (N := n40) (sc := defScope (top 40)) (by decide +kernel)) (idle1F rfl fc) (wi_list (w_var 3 rfl ⟨_, rfl, ns.map fun (n : Nat) => ((n : Nat) : Int), by rw [List.map_map]; rfl, List.pairwise_map.mpr (hnd.imp fun h c => h (Int.ofNat.inj c)), by rw [List.length_map]; omega, ?_⟩)))
        rw [List.map_map]
        rfl
      subst hs
      have hnk : ∀ es, ((St es).map (·.1)).Nodup := fun es => by
        show ((ns.map fun (k : Nat) => (((k : Nat) : Int), (rp es k).map tN)).map (·.1)).Nodup
        rw [List.map_map]
        exact List.pairwise_map.mpr (hnd.imp fun h c => h (Int.ofNat.inj c))
      refine wss_mid (fun S' => ∃ (a b c d e f : Sv K), S' = [.dat t.enc, .dat (.tuple (dN sg :: ps.map Pr.enc)), .dat (.tuple [.list ((List.range t.many).map fun k => dN (cnt t (.node sg ps) k)), .list (ps.map (tree t))]), .dat (.list (ns.map dN)), .odl (St (t.ents.filter gd)), .dat (.list ((t.ents.filter gd).map gdE)), .dat (.list L), a, b, c, d, e, f]) ?_ fun S' hl hs => ?_
      · refine ws_forT2 8 9 sc40.nd (wi_list (w_var 5 rfl ⟨_, rfl, ?_⟩) (p := true))
        refine forQ_map (t.ents.filter gd) gdE (fun pre S' => ∃ (a b c d e f : Sv K), S' = [.dat t.enc, .dat (.tuple (dN sg :: ps.map Pr.enc)), .dat (.tuple [.list ((List.range t.many).map fun k => dN (cnt t (.node sg ps) k)), .list (ps.map (tree t))]), .dat (.list (ns.map dN)), .odl (St pre), .dat (.list ((t.ents.filter gd).map gdE)), .dat (.list L), a, b, c, d, e, f]) ⟨a, b, c, d, e', .no, rfl⟩ (fun pre e post S' ee hl hs => ?_) (fun S' hl hs => hs)
        obtain ⟨a, b, c, d, e', f', rfl⟩ := hs
        have heG : e ∈ t.ents.filter gd := by rw [ee]; simp
        obtain ⟨g1, g2, g3, g4⟩ := hgd heG
        obtain ⟨hc3, hlen⟩ := hcn e heG
        have hlive : ∀ (i : Nat) (p : Pr) (k : Nat), ps[i]? = some p → e.ps[i]? = some k → cnt t p k ≠ 0 := fun i p k x y => liveE_iff g4 x y
        refine ⟨_, ⟨[tN e.ps, dN e.k], rfl, rfl, rfl⟩, wss_cons (ws_set 12 sc40.nd (w_lst (wa_cons (w_tup (wa_cons (w_var 9 rfl (wa_nil ⟨szl (Nat.le_of_ble_eq_true rfl), wa_nil ⟨szl (Nat.le_of_ble_eq_true rfl), fun _ => ?_⟩⟩)))))))⟩
        refine wss_mid (fun S' => ∃ (d e0 : Sv K), S' = [.dat t.enc, .dat (.tuple (dN sg :: ps.map Pr.enc)), .dat (.tuple [.list ((List.range t.many).map fun k => dN (cnt t (.node sg ps) k)), .list (ps.map (tree t))]), .dat (.list (ns.map dN)), .odl (St pre), .dat (.list ((t.ents.filter gd).map gdE)), .dat (.list L), a, .dat (tN e.ps), .dat (dN e.k), d, e0, .dat (.list (((rowss t ps e.ps).map fun r => e.k :: r).map tN))]) ?_ fun S' hl hs => ?_
        · refine ws_forT2 10 11 sc40.nd (wi_enumT T (w_var 8 rfl ⟨_, rfl, ?_⟩))
          rw [zipIdx_enc]
          refine forQ_map e.ps.zipIdx (fun p => PyData.tuple [dN p.2, dN p.1]) (fun pr S' => ∃ (d e0 : Sv K), S' = [.dat t.enc, .dat (.tuple (dN sg :: ps.map Pr.enc)), .dat (.tuple [.list ((List.range t.many).map fun k => dN (cnt t (.node sg ps) k)), .list (ps.map (tree t))]), .dat (.list (ns.map dN)), .odl (St pre), .dat (.list ((t.ents.filter gd).map gdE)), .dat (.list L), a, .dat (tN e.ps), .dat (dN e.k), d, e0, .dat (.list (((rowss t (ps.take pr.length) (e.ps.take pr.length)).map fun r => e.k :: r).map tN))]) ⟨d, e', ?_⟩ (fun pr x post' S' ee' hl hs => ?_) (fun S' hl hs => ?_)
          · rw [List.length_nil, List.take_zero, rowss_nil]
            rfl
          · obtain ⟨d, e0, rfl⟩ := hs
            obtain ⟨kp, ix⟩ := x
            obtain ⟨hix, hkp⟩ := zipIdx_split ee'
            have hlt : pr.length < e.ps.length := (List.getElem?_eq_some_iff.mp hkp).1
            obtain ⟨pa, hpa2⟩ : ∃ pa, ps[pr.length]? = some pa := ⟨ps[pr.length], List.getElem?_eq_getElem (by omega)⟩
            obtain ⟨ms, m1, m2, m3⟩ := hI.2 pr.length pa (by omega) hpa2
            have hkm := m3 e kp heG hkp
            have hlk : lookD (ms.map fun (k : Nat) => (((k : Nat) : Int), rowsD t pa k)) (kp : Int) = some (rowsD t pa kp) := by
              have h1 := lookD_encA (f := rowsD t pa) (ms.map fun k => (k, k)) kp
              have h2 : encA (rowsD t pa) (ms.map fun k => (k, k)) = ms.map fun (k : Nat) => (((k : Nat) : Int), rowsD t pa k) := by
                unfold encA
                rw [List.map_map]
                rfl
              have h3 : lookM (ms.map fun k => (k, k)) kp = some kp := by
                refine lookM_nodup ?_ (List.mem_map.mpr ⟨kp, hkm, rfl⟩)
                rw [List.map_map]
                have : ((fun x : Nat × Nat => x.1) ∘ fun k => (k, k)) = id := rfl
                rw [this, List.map_id]
                exact m2
              rw [h2, h3] at h1
              exact h1
            have hsn : rowss t (ps.take (pr.length + 1)) (e.ps.take (pr.length + 1)) = (rowss t (ps.take pr.length) (e.ps.take pr.length)).flatMap fun r => (rows t pa kp).map fun r' => r ++ r' := by
              rw [List.take_add_one, List.take_add_one, hpa2, hkp]
              exact rowss_snoc t _ _ pa kp (by rw [List.length_take, List.length_take]; omega)
            have hl1 : (rowss t (ps.take pr.length) (e.ps.take pr.length)).length ≤ 300 := by
              rw [rowss_len]
              exact Nat.le_trans (cnts_take t ps e.ps hlen.symm hlive _) hc3
            have hl2 : (rows t pa kp).length ≤ 300 := by
              rw [rows_len]
              exact Nat.le_trans (cnts_at t ps e.ps hlen.symm hlive hpa2 hkp) hc3
            refine ⟨_, ⟨[dN ix, dN kp], rfl, rfl, rfl⟩, wss_one (ws_set 12 sc40.nd (w_call (ok_join T) hr (by omega) (wa_cons (w_var 12 rfl (wa_cons (w_getD hu (w_ix (w_var 6 rfl (w_var 10 rfl (xd_lst (by rw [hix]; exact m1) ⟨_, rfl, w_var 11 rfl ⟨_, _, rfl, hlk, wa_nil ⟨(rowss t (ps.take pr.length) (e.ps.take pr.length)).map (fun r => e.k :: r), rows t pa kp, rfl, ?_, ?_, ?_, fun x hx => ?_, fun x hx => ?_, ?_⟩⟩⟩))))))))))⟩
            · rw [List.length_map]
              exact Nat.le_trans (Nat.mul_le_mul hl1 hl2) (by decide)
            · rw [List.length_map]
              omega
            · omega
            · obtain ⟨r, hr', rfl⟩ := List.mem_map.mp hx
              have h1 := rowss_size t _ _ r hr'
              have h2 := Pr.sizes_append (ps.take pr.length) (ps.drop pr.length)
              rw [List.take_append_drop] at h2
              rw [List.length_cons]
              omega
            · have h1 := rows_size t _ _ x hx
              have h2 := Pr.sizes_mem (List.mem_of_getElem? hpa2)
              omega
            · refine ⟨.dat (dN ix), .dat (dN kp), ?_⟩
              rw [List.length_append, List.length_singleton, hsn]
              have e1 : ((rowss t (ps.take pr.length) (e.ps.take pr.length)).map fun r => e.k :: r).flatMap (fun x => (rows t pa kp).map fun y => x ++ y) = ((rowss t (ps.take pr.length) (e.ps.take pr.length)).flatMap fun r => (rows t pa kp).map fun r' => r ++ r').map fun r => e.k :: r := by
                rw [List.flatMap_map, List.map_flatMap]
                refine flatMap_cg fun r _ => ?_
                rw [List.map_map]
                rfl
              rw [e1]
              rfl
          · obtain ⟨d, e0, rfl⟩ := hs
            refine ⟨d, e0, ?_⟩
            rw [List.length_zipIdx, List.take_length, hlen, List.take_length]
        · obtain ⟨d, e0, rfl⟩ := hs
          have hbd : (rp pre e.k).length ≤ 24 * 300 := by
            have h1 : (rp pre e.k).length = ((pre.filter fun x => decide (x.k = e.k)).map fun x : En => (rowss t ps x.ps).length).sum := flatMap_len' _ _ _ fun x => by rw [List.length_map]
            rw [h1]
            have h2 := sum_le_mul (pre.filter fun x => decide (x.k = e.k)) (fun x : En => (rowss t ps x.ps).length) 300 fun x hx => by
              rw [rowss_len]
              exact (hcn x (by rw [ee]; exact List.mem_append_left _ (List.mem_filter.mp hx).1)).1
            refine Nat.le_trans h2 (Nat.mul_le_mul_right _ ?_)
            refine Nat.le_trans (List.length_filter_le _ _) ?_
            have h3 := congrArg List.length ee
            rw [List.length_append, List.length_cons] at h3
            omega
          refine wss_one (ws_extendDL 4 12 hu rfl rfl (hnk pre) (w_var 9 rfl ⟨(e.k : Int), _, rfl, lookL_map (α := Nat) g3, ?_, a, .dat (tN e.ps), .dat (dN e.k), d, e0, .dat (.list (((rowss t ps e.ps).map fun r => e.k :: r).map tN)), ?_⟩))
          · rw [List.length_map, List.length_map, List.length_map, rowss_len]
            omega
          · have e1 : updL (St pre) (e.k : Int) (((rowss t ps e.ps).map fun r => e.k :: r).map tN) = St (pre ++ [e]) := by
              show updL (ns.map fun (k : Nat) => (((k : Nat) : Int), (rp pre k).map tN)) _ _ = _
              rw [updL_map]
              refine List.map_congr_left fun n _ => ?_
              refine congrArg (Prod.mk _) ?_
              show (if n = e.k then (rp pre n).map tN ++ _ else (rp pre n).map tN) = (rp (pre ++ [e]) n).map tN
              by_cases hn : n = e.k
              · subst hn
                rw [if_pos rfl, ← List.map_append]
                refine congrArg (List.map tN) ?_
                show rp pre e.k ++ _ = ((pre ++ [e]).filter fun x => decide (x.k = e.k)).flatMap _
                rw [List.filter_append, List.filter_cons, if_pos (decide_eq_true rfl), List.flatMap_append, List.filter_nil, List.flatMap_singleton]
              · rw [if_neg hn]
                refine congrArg (List.map tN) ?_
                show rp pre n = ((pre ++ [e]).filter fun x => decide (x.k = n)).flatMap _
                rw [List.filter_append, List.filter_cons, if_neg (by rw [decide_eq_false (fun c => hn c.symm)]; exact Bool.false_ne_true), List.filter_nil, List.append_nil]
            rw [e1]
            rfl
      · obtain ⟨a, b, c, d, e, f, rfl⟩ := hs
        refine wss_frzL 4 rfl (wss_one (ws_ret (w_var 4 rfl ?_)))
        have e1 : dlD (St (t.ents.filter gd)) = ns.map fun (k : Nat) => (((k : Nat) : Int), rowsD t (.node sg ps) k) := by
          show dlD (ns.map fun (k : Nat) => (((k : Nat) : Int), (rp (t.ents.filter gd) k).map tN)) = _
          unfold dlD
          rw [List.map_map]
          refine List.map_congr_left fun k hk => ?_
          show ((k : Int), PyData.list ((rp (t.ents.filter gd) k).map tN)) = ((k : Int), rowsD t (.node sg ps) k)
          refine congrArg (Prod.mk _) (congrArg PyData.list (congrArg (List.map tN) ?_))
          show ((t.ents.filter gd).filter fun e => decide (e.k = k)).flatMap _ = rows t (.node sg ps) k
          rw [rows, List.filter_filter]
          refine (flatMap_fil (es := t.ents) fun e he => ⟨fun h => ?_, fun h1 h2 => ?_⟩).symm
          · simp only [gd, Bool.and_eq_true, decide_eq_true_eq] at h ⊢
            exact ⟨h.2.1, h.1⟩
          · simp only [Bool.and_eq_true, decide_eq_true_eq] at h1
            have hl : liveE t ps e = false := by
              cases hlv : liveE t ps e with
              | false => rfl
              | true =>
                have : (decide (e.k = k) && gd e) = true := by
                  rw [decide_eq_true h1.2]
                  show (true && (decide (e.s = sg) && (decide (e.k ∈ ns) && liveE t ps e))) = true
                  rw [decide_eq_true h1.1, hlv, decide_eq_true (by rw [h1.2]; exact hk)]
                  rfl
                rw [this] at h2
                cases h2
            rw [liveE_not (hall e he h1.1) hl]
            rfl
        rw [e1]
        exact q
end
end K3
end

section
set_option autoImplicit true
set_option Elab.async false
set_option linter.all false
set_option maxRecDepth 100000
set_option maxHeartbeats 1000000
namespace K3
open PySem PySem.Spec PyProof.Rows L2
section
variable {X : Cx} {S : Sto X.K} {Q : D → Prop} {e : Expr} {pos p : Pos}
/-- sorted(e), what the list holds is alike -/
theorem w_sortedL {β : Type} (T : Tx X.K X.mg) {k : Nat} (hr : Rm k X.A) (enc : β → D)
    (h : W X e S fun d => ∃ bs : List β, d = .list (bs.map enc) ∧ PySem.W.AllAlike (bs.map enc) ∧ PySem.W.Sortable (bs.map enc) ∧ (∀ x, x ∈ bs → (enc x).hasDict = false ∧ (enc x).depth ≤ 100) ∧ bs.length ≤ 100000 ∧ Q (.list ((srt enc bs).map enc))) (hg : Gl X "sorted" := by rfl) (he : starEach [e] X.env = (false, eval e X.env) :: starEach [] X.env := by rfl) : W X (.Call (.Name "sorted" p) [e] [] pos) S Q :=
  w_callB (id := "sorted") hg T.free (by decide +kernel) (wa_cons (h.mono fun d ⟨bs, ed, al, so, hb, hz, q⟩ => wa_nil (by
    subst ed
    refine cd_sortedD enc bs al so (fun x hx => (hb x hx).1) (szl hz) (fun x hx => ?_) q
    have h1 := (hb x hx).2
    have h2 := hr.1.un
    omega)) he) (he := he)
end
/-- all readings, kind by kind -/
def allRows (t : Tb) (p : Pr) : List (List Nat) := (List.range t.many).flatMap fun k => rows t p k
theorem rows_ne {t : Tb} {p : Pr} {k : Nat} {r : List Nat} (h : r ∈ rows t p k) : ∃ r', r = k :: r' := by
  cases p with
  | hole =>
    rw [rows, List.mem_singleton] at h
    exact ⟨[], h⟩
  | node s ps =>
    rw [rows] at h
    obtain ⟨e, _, he⟩ := List.mem_flatMap.mp h
    obtain ⟨r', _, rfl⟩ := List.mem_map.mp he
    exact ⟨r', rfl⟩
theorem allRows_len (t : Tb) (p : Pr) : (allRows t p).length = ((List.range t.many).map (cnt t p)).sum := flatMap_len' _ _ _ fun k => rows_len t p k
theorem alike_rows (bs : List (List Nat)) : PySem.W.AllAlike (bs.map tN) := PySem.W.AllAlike.of alike_tN
theorem sortable_rows (bs : List (List Nat)) (h : ∀ r, r ∈ bs → r ≠ []) : PySem.W.Sortable (bs.map tN) := .inl fun d hd => by
  obtain ⟨r, hr, rfl⟩ := List.mem_map.mp hd
  cases r with
  | nil => exact absurd rfl (h _ hr)
  | cons x xs => exact ⟨_, _, rfl⟩
section
variable {P : Program} {w : World} {K : PySem.W.Frag} {mg : Str → Option Value} {base : Heap}
/-! ### _law_readings -/
def spReadings : Spf := fun ds R => ∃ (many most : Nat) (t : Tb) (p : Pr), ds = [t.enc, p.enc] ∧ TbOk many most t ∧ many ≤ 4 ∧ PrOk t.signs p ∧ p.size ≤ 10 ∧ ((List.range t.many).map (cnt t p)).sum ≤ 300 ∧ R (.list ((srt tN (allRows t p)).map tN))
theorem sc41 : FnScope ["_law_table_here", "_law_program_here", "_law_kind", "_law_found", "_law_its"] ["_law_table_here", "_law_program_here"] (defScope (top 41)) := ⟨rfl, rfl, rfl, by decide +kernel, rfl, by decide +kernel, by decide +kernel⟩
theorem ok_readings (T : Tx K mg) : FnN P w K mg base 13 "_law_readings" ["_law_table_here", "_law_program_here"] (spD K spReadings) := by
  obtain ⟨f, fd, F, hmg⟩ := T.top (x := "_law_readings") (j := 41) 30
  refine fnD_of F hmg sc41 (fun _ _ _ _ _ _ us hl => match us, hl with | [_, _], _ => rfl) (fun ds R h => by obtain ⟨_, _, _, _, rfl, _⟩ := h; rfl) fun cdv A outer s H E ds R hr h => ?_
  obtain ⟨many, most, t, p, rfl, ht, h4, hp, hz, hsum, q⟩ := h
  have hu : (A.deeper (envOfC "_law_readings" (defScope (top 41)) s.heap.objs.size f cdv)).units + 1 < cLine := L2.hu_of hr.1
  have hm4 : t.many ≤ 4 := by rw [ht.m]; exact h4
  have hdep : p.depth ≤ 10 := Nat.le_trans p.depth_le_size hz
  refine wss_mid (fun S' => S' = [.dat t.enc, .dat p.enc, .no, .own [], .dat (dicD ((List.range t.many).map fun (k : Nat) => (((k : Nat) : Int), rowsD t p k)))]) ?_ fun S' hl hs => ?_
  · refine ws_par2 3 4 sc41.nd (wva_cons (wv_lst (wa_nil ⟨szl (Nat.zero_le _), wva_cons (wv_dat (w_call (ok_listed T 10) hr (by decide) (wa_cons (w_var 0 rfl (wa_cons (w_var 1 rfl (wa_cons (w_call (ok_counted T 10) hr (by decide) (wa_cons (w_var 0 rfl (wa_cons (w_var 1 rfl (wa_nil ⟨many, most, t, p, rfl, ht, h4, hp, hdep, hz, ?_⟩)))))))))))))⟩)))
    refine wa_cons (w_listRange T rfl (w_ix (w_var 0 rfl (w_int (xd_tup (i := 0) rfl ⟨t.many, rfl, by omega, wa_nil ⟨many, most, t, p, List.range t.many, rfl, ht, h4, hp, hdep, hz, List.nodup_range, fun k hk => ?_, wva_nil ⟨rfl, rfl⟩⟩⟩)))))
    have hk' := List.mem_range.mp hk
    refine ⟨by rw [← ht.m]; exact hk', Nat.le_trans (le_sum_mem (f := cnt t p) hk) hsum⟩
  subst hs
  refine wss_cons (ws_forN 2 sc41.nd (wi_keysD (w_var 4 rfl ⟨_, rfl, ?_⟩)))
  have ek : (keysD ((List.range t.many).map fun (k : Nat) => (((k : Nat) : Int), rowsD t p k))).map PyData.int = (List.range t.many).map dN := by
    unfold keysD
    rw [List.map_map, List.map_map]
    rfl
  rw [ek]
  refine forQ_map (List.range t.many) dN (fun pre S' => ∃ a : Sv K, S' = [.dat t.enc, .dat p.enc, a, .own ((pre.flatMap fun k => rows t p k).map tN), .dat (dicD ((List.range t.many).map fun (k : Nat) => (((k : Nat) : Int), rowsD t p k)))]) ⟨.no, rfl⟩ (fun pre k post S' ee hl hs => ?_) (fun S' hl hs => fun _ => ?_)
  · obtain ⟨a, rfl⟩ := hs
    have hk : k ∈ List.range t.many := by rw [ee]; simp
    have hlk : lookD ((List.range t.many).map fun (k : Nat) => (((k : Nat) : Int), rowsD t p k)) (k : Int) = some (rowsD t p k) := by
      have h1 := lookD_encA (f := rowsD t p) ((List.range t.many).map fun k => (k, k)) k
      have h2 : encA (rowsD t p) ((List.range t.many).map fun k => (k, k)) = (List.range t.many).map fun (k : Nat) => (((k : Nat) : Int), rowsD t p k) := by
        unfold encA
        rw [List.map_map]
        rfl
      have h3 : lookM ((List.range t.many).map fun k => (k, k)) k = some k := by
        refine lookM_nodup ?_ (List.mem_map.mpr ⟨k, hk, rfl⟩)
        rw [List.map_map]
        have : ((fun x : Nat × Nat => x.1) ∘ fun k => (k, k)) = id := rfl
        rw [this, List.map_id]
        exact List.nodup_range
      rw [h2, h3] at h1
      exact h1
    refine ⟨_, rfl, wss_one (ws_extend 3 rfl (w_getD hu (w_var 4 rfl ⟨_, rfl, w_var 2 rfl ⟨_, _, rfl, hlk, _, rfl, ?_, .dat (dN k), ?_⟩⟩)))⟩
    · rw [List.length_map, List.length_map, ← List.length_append]
      have h1 : (allRows t p).length ≤ 300 := by rw [allRows_len]; exact hsum
      unfold allRows at h1
      rw [ee, List.flatMap_append, List.flatMap_cons, List.length_append, List.length_append] at h1
      rw [List.length_append]
      omega
    · rw [List.flatMap_append, List.map_append, List.flatMap_singleton]
      rfl
  · obtain ⟨a, rfl⟩ := hs
    have h1 : (allRows t p).length ≤ 300 := by rw [allRows_len]; exact hsum
    refine wss_frz 3 rfl (wss_one (ws_ret (w_sortedL T hr tN (w_var 3 rfl ⟨allRows t p, rfl, alike_rows _, sortable_rows _ fun r hrm => ?_, fun x _ => ⟨nodict_tN x, by rw [depth_tN]; decide⟩, by omega, q⟩))))
    obtain ⟨k, _, hk⟩ := List.mem_flatMap.mp hrm
    obtain ⟨r', rfl⟩ := rows_ne hk
    exact List.cons_ne_nil _ _
end
end K3
end

section
set_option autoImplicit true
set_option Elab.async false
set_option linter.all false
set_option maxRecDepth 100000
set_option maxHeartbeats 1000000
namespace K3
open PySem PySem.Spec PyProof.Rows L2
section
variable {P : Program} {w : World} {K : PySem.W.Frag} {mg : Str → Option Value} {base : Heap}
/-! ### nodes_in -/
def spNodes (n : Nat) : Spf := fun ds R => ∃ p : Pr, ds = [p.enc] ∧ p.depth ≤ n ∧ p.size ≤ 1000 ∧ R (.list ((nodes p).map Nd.enc))
abbrev n2 : List Str := ["program", "part", "found", "tops", "begin", "sign", "nodes", "node"]
theorem sc2 : FnScope n2 ["program"] (defScope (top 2)) := ⟨rfl, rfl, rfl, by decide +kernel, rfl, by decide +kernel, by decide +kernel⟩
theorem ok_nodes (T : Tx K mg) : ∀ n : Nat, FnN P w K mg base (n + 1) "nodes_in" ["program"] (spD K (spNodes n)) := by
  intro n
  induction n with
  | zero => exact go T 0 (fun _ h => by omega)
  | succ n ih => exact go T (n + 1) (fun m h => by
      have e : m = n := by omega
      subst e
      exact ih)
where
  go (T : Tx K mg) (n : Nat) (ih : ∀ m, n = m + 1 → FnN P w K mg base (m + 1) "nodes_in" ["program"] (spD K (spNodes m))) : FnN P w K mg base (n + 1) "nodes_in" ["program"] (spD K (spNodes n)) := by
    obtain ⟨f, fd, F, hmg⟩ := T.top (x := "nodes_in") (j := 2) 0
    refine fnD_of F hmg sc2 (fun _ _ _ _ _ _ us hl => match us, hl with | [_], _ => rfl) (fun ds R h => by obtain ⟨r, rfl, _⟩ := h; rfl) fun cdv A outer s H E ds R hr h => ?_
    obtain ⟨p, rfl, hd, hz, q⟩ := h
    cases p with
    | hole =>
      refine wss_cons (ws_if (wt_cmp (w_var 0 rfl (w_none (od_is ⟨_, rfl, ?_⟩)))))
      rw [Pr.enc]
      refine wss_one (ws_ret (w_lst (wa_cons (w_tup (wa_cons (w_none (wa_cons (w_tup (wa_nil ⟨szl (Nat.le_of_ble_eq_true rfl), wa_nil ⟨szl (Nat.le_of_ble_eq_true rfl), wa_nil ⟨szl (Nat.le_of_ble_eq_true rfl), ?_⟩⟩⟩)))))))))
      rw [nodes] at q
      exact q
    | node s ps =>
      obtain ⟨m, rfl⟩ : ∃ m, n = m + 1 := ⟨n - 1, by rw [Pr.depth] at hd; omega⟩
      rw [Pr.enc_node]
      have hz' := hz
      rw [Pr.size] at hz'
      have hpl := Pr.length_le_sizes ps
      refine wss_cons (ws_if (wt_cmp (w_var 0 rfl (w_none (od_is ⟨_, rfl, wss_nil fun _ => ?_⟩)))))
      refine wss_cons (ws_par2 2 3 sc2.nd (wva_cons (wv_lst (wa_nil ⟨szl (Nat.le_of_ble_eq_true rfl), wva_cons (wv_lst (wa_nil ⟨szl (Nat.le_of_ble_eq_true rfl), wva_nil ⟨rfl, fun _ => ?_⟩⟩))⟩))))
      refine wss_cons (ws_forN 1 sc2.nd (wi_tup (w_sl (w_var 0 rfl (w_int ⟨1, rfl, sd_tup ⟨ps.map Pr.enc, by rw [cutD_tail], ?_⟩⟩)))))
      refine forQ_map ps Pr.enc (fun pre S' => ∃ (a c : Sv K), S' = [.dat (.tuple (dN s :: ps.map Pr.enc)), a, .own ((nodess pre 1).2.map Nd.enc), .own ((nodess pre 1).1.map dN), c, .no, .no, .no]) ⟨.no, .no, by rw [nodess]; rfl⟩ (fun pre p post S' ee hl hs => ?_) (fun S' hl hs => ?_)
      · obtain ⟨a, c, rfl⟩ := hs
        have hp : p ∈ ps := by rw [ee]; simp
        have hsz := Pr.sizes_append pre (p :: post)
        rw [← ee, Pr.sizes] at hsz
        have hle := nodess_len2 pre 1
        have hpl2 := Pr.length_le_sizes pre
        have hps := nodes_length p
        refine ⟨_, rfl, wss_cons (ws_set 4 sc2.nd (w_addN (w_int ⟨1, rfl, w_lenOwn T 2 rfl ⟨_, by rw [List.length_map, hle], fun _ => ?_⟩⟩)))⟩
        refine wss_cons (ws_append 3 rfl (by rw [List.length_map, nodess_len1]; omega) (w_var 4 rfl (fun _ => ?_)))
        refine wss_one (ws_extend 2 rfl ?_)
        refine w_lcT2 (p := false) 5 6 [("sign", 5), ("nodes", 6)] sc2.nd (blkOk_by (N := n2) (sc := defScope (top 2)) (by decide +kernel)) (idleF rfl (.inl rfl) (idle1 rfl)) ?_
        refine wi_list (w_call (ih m rfl) hr (Nat.le_refl _) (wa_cons (w_var 1 rfl (wa_nil ⟨p, rfl, Pr.depth_part hd hp, Nat.le_trans (Pr.size_mem_node hp) hz, _, rfl, ?_⟩))))
        refine lcq_map (nodes p) Nd.enc (fun q => (Nd.up (1 + Pr.sizes pre) q).enc) (slt (by omega)) (fun q hq => ?_) ?_
        · refine ⟨_, ⟨[_, tN q.2], rfl, rfl, rfl⟩, fun s H C cl fp => ?_⟩
          refine w_tup (wa_cons (w_var 5 rfl (wa_cons (w_tuple T ?_))))
          refine w_lcN 7 [("node", 7)] sc2.nd (BlkOk.re (blkOk_by (N := n2) (by decide +kernel))) (idle1 rfl) ?_
          refine wi_tup (w_var 6 rfl ⟨_, rfl, ?_⟩)
          refine lcq_map q.2 dN (fun k => dN (1 + Pr.sizes pre + k)) ?_ (fun k hk => ⟨_, rfl, fun s H C cl fp => ?_⟩) ⟨_, rfl, wa_nil ⟨szl (Nat.le_of_ble_eq_true rfl), ?_⟩⟩
          · exact slt (by have := nodes_tops p q hq; omega)
          · exact w_addN (w_var 4 rfl ⟨_, rfl, w_var 7 rfl ⟨k, rfl, rfl⟩⟩)
          · show PyData.tuple [_, .tuple (q.2.map fun k => dN (1 + Pr.sizes pre + k))] = PyData.tuple [_, .tuple ((q.2.map (1 + Pr.sizes pre + ·)).map dN)]
            rw [List.map_map]
            rfl
        · refine ⟨_, rfl, by rw [List.length_map, List.length_map, hle, hps]; omega, ?_⟩
          refine ⟨.dat p.enc, .dat (dN (1 + Pr.sizes pre)), ?_⟩
          rw [nodess_snoc, List.map_append, List.map_append, List.map_map]
          rfl
      · obtain ⟨a, c, rfl⟩ := hs
        refine fun _ => ?_
        refine wss_frz 2 rfl ?_
        refine wss_frz 3 rfl ?_
        refine wss_one (ws_ret (w_lst ?_))
        refine wa_cons (w_tup ?_)
        refine wa_cons (w_ix (w_var 0 rfl (w_int (xd_tup (i := 0) rfl ?_))))
        refine wa_cons (w_tuple T (w_var 3 rfl ⟨_, rfl, wa_nil ⟨?_, ?_⟩⟩))
        · exact szl (Nat.le_of_ble_eq_true rfl)
        refine wa_star (w_var 2 rfl ⟨_, .inl rfl, wa_nil ⟨?_, ?_⟩⟩)
        · exact Nat.le_trans (by rw [List.length_cons, List.length_append, List.length_map, nodess_len2, List.length_nil]; omega) (by decide : 1001 ≤ sizeLine)
        rw [nodes] at q
        rw [List.append_nil]
        exact q
end
end K3
end

section
set_option autoImplicit true
set_option Elab.async false
set_option linter.all false
set_option maxRecDepth 100000
set_option maxHeartbeats 1000000
/-! Plain: orders of numbers, sorted lists. -/
namespace K3
open PySem PySem.Spec PyProof.Rows L2
/-- an order of the numbers below n -/
def Pm (n : Nat) (κ : List Nat) : Prop := κ.Perm (List.range n)
def bk (κ : List Nat) : List Nat := (List.range κ.length).map κ.idxOf
namespace Pm
variable {n : Nat} {κ : List Nat} (h : Pm n κ)
include h
theorem len : κ.length = n := by rw [h.length_eq, List.length_range]
theorem nd : κ.Nodup := h.nodup_iff.mpr List.nodup_range
theorem mem {k : Nat} : k ∈ κ ↔ k < n := by rw [h.mem_iff, List.mem_range]
theorem at_ {j : Nat} (hj : j < n) : κ[j]? = some (κ.getD j 0) := getD_of (by rw [h.len]; exact hj) 0
theorem lt {j : Nat} (hj : j < n) : κ.getD j 0 < n := h.mem.mp (List.mem_of_getElem? (h.at_ hj))
theorem ilt {k : Nat} (hk : k < n) : κ.idxOf k < n := by
  have := List.idxOf_lt_length_of_mem (h.mem.mpr hk)
  rwa [h.len] at this
theorem get_idx {k : Nat} (hk : k < n) : κ.getD (κ.idxOf k) 0 = k := by
  have z := List.getElem_idxOf (List.idxOf_lt_length_of_mem (h.mem.mpr hk))
  rw [List.getD_eq_getElem?_getD, List.getElem?_eq_getElem (List.idxOf_lt_length_of_mem (h.mem.mpr hk)), z]
  rfl
theorem idx_inj {k k' : Nat} (hk : k < n) (hk' : k' < n) (e : κ.idxOf k = κ.idxOf k') : k = k' := by
  rw [← h.get_idx hk, ← h.get_idx hk', e]
theorem idx_get {j : Nat} (hj : j < n) : κ.idxOf (κ.getD j 0) = j := by
  have h1 := h.at_ (h.ilt (h.lt hj))
  rw [h.get_idx (h.lt hj), ← h.at_ hj] at h1
  have l1 : κ.idxOf (κ.getD j 0) < κ.length := by rw [h.len]; exact h.ilt (h.lt hj)
  have l2 : j < κ.length := by rw [h.len]; exact hj
  rw [List.getElem?_eq_getElem l1, List.getElem?_eq_getElem l2] at h1
  exact (List.getElem_inj h.nd).mp (Option.some.inj h1)
theorem get_inj {i j : Nat} (hi : i < n) (hj : j < n) (e : κ.getD i 0 = κ.getD j 0) : i = j := by
  rw [← h.idx_get hi, ← h.idx_get hj, e]
theorem bget {k : Nat} (hk : k < n) : (bk κ).getD k 0 = κ.idxOf k := by
  rw [bk, List.getD_eq_getElem?_getD, List.getElem?_map, List.getElem?_range (by rw [h.len]; exact hk)]
  rfl
theorem bkp : Pm n (bk κ) := by
  refine (List.perm_ext_iff_of_nodup ?_ List.nodup_range).mpr fun j => ?_
  · refine List.pairwise_map.mpr (List.nodup_range.imp_of_mem fun {a b} ha hb ne e => ?_)
    rw [List.mem_range, h.len] at ha hb
    exact ne (h.idx_inj ha hb e)
  · rw [List.mem_range, bk, List.mem_map]
    constructor
    · rintro ⟨k, hk, rfl⟩
      rw [List.mem_range, h.len] at hk
      exact h.ilt hk
    · intro hj
      exact ⟨κ.getD j 0, by rw [List.mem_range, h.len]; exact h.lt hj, h.idx_get hj⟩
theorem bidx {j : Nat} (hj : j < n) : (bk κ).idxOf j = κ.getD j 0 := by
  have z := h.bkp.idx_get (h.lt hj)
  rwa [h.bget (h.lt hj), h.idx_get hj] at z
theorem map_get {α : Type} (f : Nat → α) : (List.range n).map (fun j => f (κ.getD j 0)) = κ.map f := by
  apply List.ext_getElem?
  intro i
  rw [List.getElem?_map, List.getElem?_map]
  by_cases hi : i < n
  · rw [List.getElem?_range hi, h.at_ hi]
    rfl
  · rw [List.getElem?_eq_none (by rw [List.length_range]; omega), List.getElem?_eq_none (by rw [h.len]; omega)]
    rfl
end Pm
/-! ### sorted lists -/
theorem sorted_eq {α : Type} {R : α → α → Prop} : ∀ {xs ys : List α}, (∀ a, a ∈ xs → ∀ b, b ∈ xs → R a b → R b a → a = b) → xs.Pairwise R → ys.Pairwise R → xs.Perm ys → xs = ys
  | [], ys, _, _, _, p => by rw [List.nil_perm.mp p]
  | x :: xs, [], _, _, _, p => by cases p.length_eq
  | x :: xs, y :: ys, an, h1, h2, p => by
    rw [List.pairwise_cons] at h1 h2
    have e : x = y := by
      apply Classical.byContradiction
      intro ne
      have m1 : y ∈ xs := by
        rcases List.mem_cons.mp (p.mem_iff.mpr (List.mem_cons_self ..)) with z | z
        · exact absurd z.symm ne
        · exact z
      have m2 : x ∈ ys := by
        rcases List.mem_cons.mp (p.mem_iff.mp (List.mem_cons_self ..)) with z | z
        · exact absurd z ne
        · exact z
      exact ne (an x (List.mem_cons_self ..) y (List.mem_cons_of_mem _ m1) (h1.1 y m1) (h2.1 x m2))
    subst e
    rw [sorted_eq (fun a ha b hb => an a (List.mem_cons_of_mem _ ha) b (List.mem_cons_of_mem _ hb)) h1.2 h2.2 (List.perm_cons x |>.mp p)]
section
variable {β : Type} {enc : β → D}
/-- sorted lists of the same things are the same -/
theorem asc_eq (inj : ∀ a b, PySem.W.keyToks (enc a) = PySem.W.keyToks (enc b) → a = b) {xs ys : List β} (h1 : Asc enc xs) (h2 : Asc enc ys) (p : xs.Perm ys) : xs = ys :=
  sorted_eq (fun a _ b _ r1 r2 => inj a b (dlt_tot r2 r1)) h1 h2 p
theorem srt_eq (inj : ∀ a b, PySem.W.keyToks (enc a) = PySem.W.keyToks (enc b) → a = b) {xs ys : List β} (p : xs.Perm ys) : srt enc xs = srt enc ys :=
  asc_eq inj (srt_asc _) (srt_asc _) ((srt_perm xs).trans (p.trans (srt_perm ys).symm))
theorem srt_self (inj : ∀ a b, PySem.W.keyToks (enc a) = PySem.W.keyToks (enc b) → a = b) {xs : List β} (h : Asc enc xs) : srt enc xs = xs :=
  asc_eq inj (srt_asc _) h (srt_perm xs)
theorem asc_of_lt {xs : List β} (h : xs.Pairwise fun a b => PySem.W.dataLt (enc a) (enc b) = true) : Asc enc xs := h.imp fun r => dlt_asym r
/-- each once and in order: strictly -/
theorem lt_of_asc (inj : ∀ a b, PySem.W.keyToks (enc a) = PySem.W.keyToks (enc b) → a = b) {xs : List β} (h : Asc enc xs) (nd : xs.Nodup) : xs.Pairwise fun a b => PySem.W.dataLt (enc a) (enc b) = true := by
  refine (h.and nd).imp fun {a b} ⟨r, ne⟩ => ?_
  cases z : PySem.W.dataLt (enc a) (enc b) with
  | true => rfl
  | false => exact absurd (inj a b (dlt_tot z r)) ne
end
theorem toks_cons (n : Nat) (ns : List Nat) : PySem.W.keyToksAll ((n :: ns).map dN) = .inl 1 :: .inl (n : Int) :: PySem.W.keyToksAll (ns.map dN) := by
  rw [List.map_cons, PySem.W.toks_all_cons, PySem.W.keyToks]
  rfl
theorem toks_inj : ∀ {xs ys : List Nat} {r r' : List (Int ⊕ List Nat)}, PySem.W.keyToksAll (xs.map dN) ++ r = PySem.W.keyToksAll (ys.map dN) ++ r' → xs = ys ∧ r = r'
  | [], [], r, r', h => by
    rw [List.map_nil, PySem.W.keyToksAll] at h
    exact ⟨rfl, (List.cons.inj h).2⟩
  | [], y :: ys, _, _, h => by
    rw [toks_cons, List.map_nil, PySem.W.keyToksAll] at h
    have := (List.cons.inj h).1
    cases this
  | x :: xs, [], _, _, h => by
    rw [toks_cons, List.map_nil, PySem.W.keyToksAll] at h
    have := (List.cons.inj h).1
    cases this
  | x :: xs, y :: ys, r, r', h => by
    rw [toks_cons, toks_cons] at h
    have h1 := (List.cons.inj h).2
    have h2 := (List.cons.inj h1).1
    obtain ⟨e1, e2⟩ := toks_inj (List.cons.inj h1).2
    injection h2 with h2
    exact ⟨by rw [e1, Int.ofNat_inj.mp h2], e2⟩
theorem toks_tN (xs ys : List Nat) (h : PySem.W.keyToks (tN xs) = PySem.W.keyToks (tN ys)) : xs = ys := by
  unfold tN at h
  rw [PySem.W.keyToks, PySem.W.keyToks] at h
  exact (toks_inj (r := []) (r' := []) (by rw [List.append_nil, List.append_nil]; exact h)).1
theorem toks_int (a b : Int) (h : PySem.W.keyToks (.int a) = PySem.W.keyToks (.int b)) : a = b := by
  rw [PySem.W.keyToks, PySem.W.keyToks] at h
  have := (List.cons.inj h).1
  injection this
theorem toks_dN (a b : Nat) (h : PySem.W.keyToks (dN a) = PySem.W.keyToks (dN b)) : a = b := Int.ofNat_inj.mp (toks_int _ _ h)
theorem toks_en (a b : En) (h : PySem.W.keyToks a.enc = PySem.W.keyToks b.enc) : a = b := by
  have key : ∀ e : En, PySem.W.keyToks e.enc = .inl 1 :: .inl (e.s : Int) :: .inl 1 :: (PySem.W.keyToksAll (e.ps.map dN) ++ (.inl 1 :: .inl (e.k : Int) :: .inl 0 :: [])) := fun e => by
    unfold En.enc tN
    rw [PySem.W.keyToks, PySem.W.toks_all_cons, PySem.W.toks_all_cons, PySem.W.toks_all_cons, PySem.W.keyToks, PySem.W.keyToks, PySem.W.keyToks, PySem.W.keyToksAll]
    rfl
  rw [key, key] at h
  have h1 := (List.cons.inj h).2
  have h2 := (List.cons.inj h1).1
  have h3 := (List.cons.inj (List.cons.inj h1).2).2
  obtain ⟨e1, e2⟩ := toks_inj h3
  have h4 := (List.cons.inj (List.cons.inj e2).2).1
  injection h2 with h2
  injection h4 with h4
  cases a
  cases b
  simp only at e1 h2 h4
  rw [e1, Int.ofNat_inj.mp h2, Int.ofNat_inj.mp h4]
end K3
end

section
set_option autoImplicit true
set_option Elab.async false
set_option linter.all false
set_option maxRecDepth 100000
set_option maxHeartbeats 1000000
/-! Plain: the parts of a program in the order of its nodes. -/
namespace K3
open PySem PySem.Spec PyProof.Rows L2
namespace Pr
def parts : Pr → List Pr
  | .hole => []
  | .node _ ps => ps
def sign : Pr → Option Nat
  | .hole => none
  | .node s _ => some s
mutual
def subs : Pr → List Pr
  | .hole => [.hole]
  | .node s ps => .node s ps :: subss ps
def subss : List Pr → List Pr
  | [] => []
  | p :: ps => subs p ++ subss ps
end
mutual
theorem subs_len : ∀ p : Pr, (subs p).length = p.size
  | .hole => by rw [subs, size]; rfl
  | .node s ps => by rw [subs, size, List.length_cons, subss_len ps]; omega
theorem subss_len : ∀ ps : List Pr, (subss ps).length = sizes ps
  | [] => by rw [subss, sizes]; rfl
  | p :: ps => by rw [subss, sizes, List.length_append, subs_len p, subss_len ps]
end
theorem subs_zero (p : Pr) : (subs p)[0]? = some p := by
  cases p <;> rw [subs] <;> rfl
/-- where the i-th part begins -/
def off (ps : List Pr) (i : Nat) : Nat := sizes (ps.take i)
theorem off_zero (ps : List Pr) : off ps 0 = 0 := by rw [off, List.take_zero, sizes]
theorem off_succ (p : Pr) (ps : List Pr) (i : Nat) : off (p :: ps) (i + 1) = p.size + off ps i := by rw [off, List.take_succ_cons, sizes]; rfl
theorem split_at : ∀ (ps : List Pr) (n : Nat), n < sizes ps → ∃ i p r, ps[i]? = some p ∧ r < p.size ∧ n = off ps i + r
  | [], n, h => by rw [sizes] at h; omega
  | p :: ps, n, h => by
    rw [sizes] at h
    by_cases c : n < p.size
    · exact ⟨0, p, n, rfl, c, by rw [off_zero]; omega⟩
    · obtain ⟨i, q, r, h1, h2, h3⟩ := split_at ps (n - p.size) (by omega)
      exact ⟨i + 1, q, r, h1, h2, by rw [off_succ]; omega⟩
theorem tops_at : ∀ (ps : List Pr) (b i : Nat) (p : Pr), ps[i]? = some p → (nodess ps b).1[i]? = some (b + off ps i)
  | [], _, _, _, h => by cases h
  | q :: ps, b, 0, p, h => by
    rw [nodess, off_zero]
    rfl
  | q :: ps, b, i + 1, p, h => by
    rw [nodess, off_succ, List.getElem?_cons_succ, tops_at ps (b + q.size) i p h]
    congr 1
    omega
theorem subss_at : ∀ (ps : List Pr) (i : Nat) (p : Pr) (r : Nat), ps[i]? = some p → r < p.size → (subss ps)[off ps i + r]? = (subs p)[r]?
  | [], _, _, _, h, _ => by cases h
  | q :: ps, 0, p, r, h, hr => by
    obtain rfl : q = p := Option.some.inj h
    rw [subss, off_zero, Nat.zero_add, List.getElem?_append_left (by rw [subs_len]; exact hr)]
  | q :: ps, i + 1, p, r, h, hr => by
    rw [subss, off_succ, List.getElem?_append_right (by rw [subs_len]; omega), subs_len, ← subss_at ps i p r h hr]
    congr 1
    omega
theorem nodess_at : ∀ (ps : List Pr) (b i : Nat) (p : Pr) (r : Nat), ps[i]? = some p → r < p.size → (nodess ps b).2[off ps i + r]? = ((nodes p)[r]?).map (Nd.up (b + off ps i))
  | [], _, _, _, _, h, _ => by cases h
  | q :: ps, b, 0, p, r, h, hr => by
    obtain rfl : q = p := Option.some.inj h
    rw [nodess, off_zero, Nat.zero_add, List.getElem?_append_left (by rw [List.length_map, nodes_length]; exact hr), List.getElem?_map]
    rfl
  | q :: ps, b, i + 1, p, r, h, hr => by
    have z := nodess_at ps (b + q.size) i p r h hr
    rw [nodess, off_succ, List.getElem?_append_right (by rw [List.length_map, nodes_length]; omega), List.length_map, nodes_length]
    rw [show q.size + off ps i + r - q.size = off ps i + r by omega, z, Nat.add_assoc]
/-- a node: its sign, and where its parts stand -/
structure NodeAt (p q : Pr) (n : Nat) (x : Nd) : Prop where
  get : (nodes p)[n]? = some x
  sg : x.1 = q.sign
  len : x.2.length = q.parts.length
  tops : ∀ i m : Nat, x.2[i]? = some m → n < m ∧ ∃ q', (subs p)[m]? = some q' ∧ q.parts[i]? = some q'
theorem node_at : ∀ (p : Pr) (n : Nat) (q : Pr), (subs p)[n]? = some q → ∃ x, NodeAt p q n x := by
  intro p
  refine Pr.ind' (P := fun p => ∀ (n : Nat) (q : Pr), (subs p)[n]? = some q → ∃ x, NodeAt p q n x) ?_ ?_ p
  · intro n q h
    rw [subs] at h
    cases n with
    | succ n => cases h
    | zero =>
      obtain rfl : Pr.hole = q := Option.some.inj h
      exact ⟨(none, []), by rw [nodes]; rfl, rfl, rfl, fun i m e => by cases e⟩
  · intro s ps ih n q h
    cases n with
    | zero =>
      rw [subs_zero] at h
      obtain rfl := Option.some.inj h
      refine ⟨(some s, (nodess ps 1).1), by rw [nodes]; rfl, rfl, nodess_len1 ps 1, fun i m e => ?_⟩
      have il : i < ps.length := by
        have := (List.getElem?_eq_some_iff.mp e).1
        rwa [nodess_len1] at this
      obtain ⟨q', eq⟩ : ∃ q', ps[i]? = some q' := ⟨_, List.getElem?_eq_getElem il⟩
      rw [tops_at ps 1 i q' eq] at e
      obtain rfl := Option.some.inj e
      refine ⟨by omega, q', ?_, eq⟩
      have z := subss_at ps i q' 0 eq (size_pos q')
      rw [subs_zero] at z
      rw [subs, Nat.add_comm, List.getElem?_cons_succ]
      exact z
    | succ n =>
      rw [subs, List.getElem?_cons_succ] at h
      have nl : n < sizes ps := by
        have := (List.getElem?_eq_some_iff.mp h).1
        rwa [subss_len] at this
      obtain ⟨i, p', r, h1, h2, rfl⟩ := split_at ps n nl
      rw [subss_at ps i p' r h1 h2] at h
      obtain ⟨x, hx⟩ := ih p' (List.mem_of_getElem? h1) r q h
      refine ⟨Nd.up (1 + off ps i) x, ?_, hx.sg, ?_, fun j m e => ?_⟩
      · rw [nodes, List.getElem?_cons_succ, nodess_at ps 1 i p' r h1 h2, hx.get]
        rfl
      · unfold Nd.up
        rw [List.length_map]
        exact hx.len
      · unfold Nd.up at e
        rw [List.getElem?_map] at e
        cases z : x.2[j]? with
        | none => rw [z] at e; cases e
        | some m' =>
          rw [z] at e
          have em : 1 + off ps i + m' = m := Option.some.inj e
          subst em
          obtain ⟨k1, q', k2, k3⟩ := hx.tops j m' z
          have ml : m' < p'.size := by
            have := (List.getElem?_eq_some_iff.mp k2).1
            rwa [subs_len] at this
          refine ⟨by omega, q', ?_, k3⟩
          rw [subs, show 1 + off ps i + m' = (off ps i + m') + 1 by omega, List.getElem?_cons_succ, subss_at ps i p' m' h1 ml]
          exact k2
/-! ### signs renumbered -/
mutual
theorem ren_size (σ : List Nat) : ∀ p : Pr, (ren σ p).size = p.size
  | .hole => by rw [ren]
  | .node s ps => by rw [ren, size, size, rens_sizes σ ps]
theorem rens_sizes (σ : List Nat) : ∀ ps : List Pr, sizes (rens σ ps) = sizes ps
  | [] => by rw [rens]
  | p :: ps => by rw [rens, sizes, sizes, ren_size σ p, rens_sizes σ ps]
end
mutual
theorem ren_subs (σ : List Nat) : ∀ p : Pr, subs (ren σ p) = (subs p).map (ren σ)
  | .hole => by rw [ren, subs, List.map_cons, ren]; rfl
  | .node s ps => by rw [ren, subs, subs, List.map_cons, ren, rens_subss σ ps]
theorem rens_subss (σ : List Nat) : ∀ ps : List Pr, subss (rens σ ps) = (subss ps).map (ren σ)
  | [] => by rw [rens, subss]; rfl
  | p :: ps => by rw [rens, subss, subss, List.map_append, ren_subs σ p, rens_subss σ ps]
end
def Nd.re (σ : List Nat) (x : Nd) : Nd := (x.1.map σ.idxOf, x.2)
mutual
theorem ren_nodes (σ : List Nat) : ∀ p : Pr, nodes (ren σ p) = (nodes p).map (Nd.re σ)
  | .hole => by rw [ren, nodes]; rfl
  | .node s ps => by
    rw [ren, nodes, nodes, List.map_cons, (rens_nodess σ ps 1).1, (rens_nodess σ ps 1).2]
    rfl
theorem rens_nodess (σ : List Nat) : ∀ (ps : List Pr) (b : Nat), (nodess (rens σ ps) b).1 = (nodess ps b).1 ∧ (nodess (rens σ ps) b).2 = (nodess ps b).2.map (Nd.re σ)
  | [], b => by rw [rens, nodess]; exact ⟨rfl, rfl⟩
  | p :: ps, b => by
    rw [rens, nodess, nodess, ren_size, (rens_nodess σ ps _).1, (rens_nodess σ ps _).2, ren_nodes σ p]
    refine ⟨rfl, ?_⟩
    rw [List.map_append, List.map_map, List.map_map]
    rfl
end
mutual
theorem ren_put (σ : List Nat) : ∀ (p : Pr) (k : Nat) (o : Pr), ren σ (put p k o) = put (ren σ p) k (ren σ o)
  | .hole, k, o => by
    rw [ren, put, put]
    split <;> rfl
  | .node s ps, k, o => by
    rw [put, ren, put]
    split
    · rfl
    · rw [ren, rens_puts σ 1 ps k o]
theorem rens_puts (σ : List Nat) : ∀ (f : Nat) (ps : List Pr) (k : Nat) (o : Pr), rens σ (puts f ps k o) = puts f (rens σ ps) k (ren σ o)
  | f, [], k, o => by rw [puts, rens, puts]
  | f, p :: ps, k, o => by
    rw [puts, rens, rens, puts, rens_puts σ _ ps k o, ren_size]
    split
    · rw [ren_put σ p _ o]
    · rfl
end
/-- there and back -/
theorem ren_back {n : Nat} {σ : List Nat} (h : Pm n σ) : ∀ p : Pr, p.AllS (fun s _ => s < n) → ren (bk σ) (ren σ p) = p := by
  intro p
  refine Pr.ind' (P := fun p => p.AllS (fun s _ => s < n) → ren (bk σ) (ren σ p) = p) (fun _ => by rw [ren, ren]) ?_ p
  intro s ps ih hs
  rw [AllS] at hs
  rw [ren, ren, h.bidx (h.ilt hs.1), h.get_idx hs.1, rens_eq, rens_eq, List.map_map]
  congr 1
  conv => rhs; rw [← List.map_id ps]
  exact List.map_congr_left fun p hp => ih p hp (allSs_mem hs.2 hp)
end Pr
end K3
end

section
set_option autoImplicit true
set_option Elab.async false
set_option linter.all false
set_option maxRecDepth 100000
set_option maxHeartbeats 1000000
/-! Plain: tables with kinds and signs in other orders; counts, readings, made kinds. -/
namespace K3
open PySem PySem.Spec PyProof.Rows L2
/-- what any of the law's tables is, renumbered or not -/
structure TbW (many : Nat) (t : Tb) : Prop where
  m : t.many = many
  sl : t.signs.length ≤ 6
  s2 : ∀ s, s ∈ t.signs → s ≤ 2
  e : ∀ e, e ∈ t.ents → EnOk many t.signs e
  n : t.ents.length ≤ 24
  o : Srt t.ents
theorem TbOk.w {many most : Nat} {t : Tb} (h : TbOk many most t) (h6 : most ≤ 6) : TbW many t := ⟨h.m, Nat.le_trans h.s.1 h6, h.s.2.2, h.e, h.n, h.o⟩
theorem EnOk.lt {many : Nat} {σ : List Nat} {e : En} (h : EnOk many σ e) : e.s < σ.length := (List.getElem?_eq_some_iff.mp h.1).1
theorem EnOk.two {many : Nat} {σ : List Nat} {e : En} (h : EnOk many σ e) (h2 : ∀ s, s ∈ σ → s ≤ 2) : e.ps.length ≤ 2 := h2 _ (List.mem_of_getElem? h.1)
section
variable {many : Nat} {t : Tb} {κ σ : List Nat}
theorem renE_back (hκ : Pm many κ) (hσ : Pm t.signs.length σ) {e : En} (he : EnOk many t.signs e) : renE (bk κ) (bk σ) (renE κ σ e) = e := by
  have e1 : (bk σ).idxOf (σ.idxOf e.s) = e.s := by rw [hσ.bidx (hσ.ilt he.lt), hσ.get_idx he.lt]
  have e2 : ∀ k, k < many → (bk κ).idxOf (κ.idxOf k) = k := fun k hk => by rw [hκ.bidx (hκ.ilt hk), hκ.get_idx hk]
  unfold renE
  simp only [e1, e2 e.k he.2.2, List.map_map]
  congr 1
  conv => rhs; rw [← List.map_id e.ps]
  exact List.map_congr_left fun k hk => e2 k (he.2.1 k hk)
theorem renE_inj (hκ : Pm many κ) (hσ : Pm t.signs.length σ) {a b : En} (ha : EnOk many t.signs a) (hb : EnOk many t.signs b) (h : renE κ σ a = renE κ σ b) : a = b := by
  rw [← renE_back hκ hσ ha, ← renE_back hκ hσ hb, h]
theorem Srt.nd {es : List En} (h : Srt es) : es.Nodup := h.imp fun {a b} r e => by
  subst e
  rw [dlt_irr] at r
  cases r
theorem renT_perm : (renT κ σ t).ents.Perm (t.ents.map (renE κ σ)) := srt_perm _
theorem ren_srt (h : TbW many t) (hκ : Pm many κ) (hσ : Pm t.signs.length σ) : Srt (renT κ σ t).ents := by
  refine lt_of_asc toks_en (srt_asc _) (renT_perm.nodup_iff.mpr ?_)
  refine List.pairwise_map.mpr ((Srt.nd h.o).imp_of_mem fun {a b} ha hb ne e => ne (renE_inj hκ hσ (h.e a ha) (h.e b hb) e))
theorem ren_en (hκ : Pm many κ) (hσ : Pm t.signs.length σ) {e : En} (he : EnOk many t.signs e) : EnOk many (renT κ σ t).signs (renE κ σ e) := by
  refine ⟨?_, fun k hk => ?_, hκ.ilt he.2.2⟩
  · show (σ.map fun s => t.signs.getD s 0)[σ.idxOf e.s]? = some (e.ps.map κ.idxOf).length
    rw [List.getElem?_map, hσ.at_ (hσ.ilt he.lt), hσ.get_idx he.lt, List.length_map, Option.map_some, List.getD_eq_getElem?_getD, he.1]
    rfl
  · obtain ⟨j, hj, rfl⟩ := List.mem_map.mp hk
    exact hκ.ilt (he.2.1 j hj)
theorem TbW.ren (h : TbW many t) (hκ : Pm many κ) (hσ : Pm t.signs.length σ) : TbW many (renT κ σ t) where
  m := h.m
  sl := by
    show (σ.map _).length ≤ 6
    rw [List.length_map, hσ.len]
    exact h.sl
  s2 := fun s hs => by
    obtain ⟨j, hj, rfl⟩ := List.mem_map.mp hs
    exact h.s2 _ (List.mem_of_getElem? (getD_of (hσ.mem.mp hj) 0))
  e := fun e he => by
    obtain ⟨e', h', rfl⟩ := List.mem_map.mp (renT_perm.mem_iff.mp he)
    exact ren_en hκ hσ (h.e e' h')
  n := by
    rw [renT_perm.length_eq, List.length_map]
    exact h.n
  o := ren_srt h hκ hσ
theorem TbW.tok (h : TbW many t) (h4 : many ≤ 4) (hκ : Pm many κ) (hσ : Pm t.signs.length σ) : TOk t κ σ where
  n := by have := h.n; omega
  kl := by rw [hκ.len]; omega
  sl := by rw [hσ.len]; have := h.sl; omega
  km := fun k hk => hκ.mem.mpr (by rwa [hκ.len] at hk)
  sm := fun k hk => hσ.mem.mpr (by rwa [hσ.len] at hk)
  sb := fun s hs => hσ.mem.mp hs
  e := fun e he => by
    have z := h.e e he
    rw [hσ.len, hκ.len]
    exact ⟨z.lt, z.2.1, z.2.2, Nat.le_trans (z.two h.s2) (by decide)⟩
/-- there and back -/
theorem renT_back (h : TbW many t) (hκ : Pm many κ) (hσ : Pm t.signs.length σ) : renT (bk κ) (bk σ) (renT κ σ t) = t := by
  have e1 : srt En.enc ((renT κ σ t).ents.map (renE (bk κ) (bk σ))) = t.ents := by
    refine (srt_eq toks_en (ys := t.ents) ?_).trans (srt_self toks_en (asc_of_lt h.o))
    refine (renT_perm.map _).trans ?_
    rw [List.map_map]
    have : t.ents.map (renE (bk κ) (bk σ) ∘ renE κ σ) = t.ents := by
      conv => rhs; rw [← List.map_id t.ents]
      exact List.map_congr_left fun e he => renE_back hκ hσ (h.e e he)
    rw [this]
  have e2 : (bk σ).map (fun s => (renT κ σ t).signs.getD s 0) = t.signs := by
    show (bk σ).map (fun s => (σ.map fun s => t.signs.getD s 0).getD s 0) = t.signs
    apply List.ext_getElem?
    intro i
    by_cases hi : i < t.signs.length
    · rw [List.getElem?_map, hσ.bkp.at_ hi, hσ.bget hi, Option.map_some, List.getD_eq_getElem?_getD, List.getElem?_map, hσ.at_ (hσ.ilt hi), hσ.get_idx hi, getD_of hi 0]
      rfl
    · rw [List.getElem?_eq_none (by rw [List.length_map, hσ.bkp.len]; omega), List.getElem?_eq_none (by omega)]
  show (⟨_, _, _⟩ : Tb) = t
  rw [e1, e2]
  rfl
/-! ### the entries of a sign and a kind -/
theorem ren_at (h : TbW many t) (hκ : Pm many κ) (hσ : Pm t.signs.length σ) {s k : Nat} (hs : s < t.signs.length) (hk : k < many) : ((renT κ σ t).at (σ.idxOf s) (κ.idxOf k)).Perm ((t.at s k).map (renE κ σ)) := by
  unfold Tb.at
  refine (renT_perm.filter _).trans ?_
  rw [List.filter_map]
  refine List.Perm.of_eq (congrArg _ (List.filter_congr fun e he => ?_))
  have z := h.e e he
  show (decide (σ.idxOf e.s = σ.idxOf s) && decide (κ.idxOf e.k = κ.idxOf k)) = _
  rw [decide_eq_decide.mpr (⟨fun q => hσ.idx_inj z.lt hs q, fun q => by rw [q]⟩ : σ.idxOf e.s = σ.idxOf s ↔ e.s = s), decide_eq_decide.mpr (⟨fun q => hκ.idx_inj z.2.2 hk q, fun q => by rw [q]⟩ : κ.idxOf e.k = κ.idxOf k ↔ e.k = k)]
theorem sum_perm {xs ys : List Nat} (p : xs.Perm ys) : xs.sum = ys.sum := by
  induction p with
  | nil => rfl
  | cons x _ ih => rw [List.sum_cons, List.sum_cons, ih]
  | swap x y l => simp only [List.sum_cons]; omega
  | trans _ _ a b => exact a.trans b
theorem at_mem {s k : Nat} {e : En} (h : e ∈ t.at s k) : e ∈ t.ents ∧ e.s = s ∧ e.k = k := by
  unfold Tb.at at h
  rw [List.mem_filter, Bool.and_eq_true, decide_eq_true_eq, decide_eq_true_eq] at h
  exact h
/-- as many readings -/
theorem cnt_ren (h : TbW many t) (hκ : Pm many κ) (hσ : Pm t.signs.length σ) : ∀ p : Pr, p.AllS (fun s _ => s < t.signs.length) → ∀ k, k < many → cnt (renT κ σ t) (p.ren σ) (κ.idxOf k) = cnt t p k := by
  intro p
  refine Pr.ind' (P := fun p => p.AllS (fun s _ => s < t.signs.length) → ∀ k, k < many → cnt (renT κ σ t) (p.ren σ) (κ.idxOf k) = cnt t p k) (fun _ k _ => by rw [Pr.ren, cnt, cnt]) ?_ p
  intro s ps ih hs k hk
  rw [Pr.AllS] at hs
  rw [Pr.ren, cnt, cnt, sum_perm ((ren_at h hκ hσ hs.1 hk).map _), List.map_map]
  congr 1
  refine List.map_congr_left fun e he => ?_
  have z := h.e e (at_mem he).1
  show cnts (renT κ σ t) (Pr.rens σ ps) (e.ps.map κ.idxOf) = cnts t ps e.ps
  have key : ∀ (ps : List Pr) (ks : List Nat), (∀ p, p ∈ ps → ∀ k, k < many → cnt (renT κ σ t) (p.ren σ) (κ.idxOf k) = cnt t p k) → (∀ k, k ∈ ks → k < many) → cnts (renT κ σ t) (Pr.rens σ ps) (ks.map κ.idxOf) = cnts t ps ks := by
    intro ps
    induction ps with
    | nil => intro ks _ _; rw [Pr.rens, cnts_nil, cnts_nil]
    | cons p ps ih =>
      intro ks h1 h2
      cases ks with
      | nil => rw [List.map_nil, cnts_nil2, cnts_nil2]
      | cons k ks =>
        rw [Pr.rens, List.map_cons, cnts, cnts, h1 p (List.mem_cons_self ..) k (h2 k (List.mem_cons_self ..)), ih ks (fun q hq => h1 q (List.mem_cons_of_mem _ hq)) fun j hj => h2 j (List.mem_cons_of_mem _ hj)]
  exact key ps e.ps (fun p hp => ih p hp (Pr.allSs_mem hs.2 hp)) z.2.1
/-! ### readings -/
theorem perm_flatMap {α β : Type} (f : α → List β) {xs ys : List α} (p : xs.Perm ys) : (xs.flatMap f).Perm (ys.flatMap f) := by
  induction p with
  | nil => exact .refl _
  | cons x _ ih => rw [List.flatMap_cons, List.flatMap_cons]; exact ih.append_left _
  | swap x y l =>
    simp only [List.flatMap_cons, ← List.append_assoc]
    exact (List.perm_append_comm).append_right _
  | trans _ _ a b => exact a.trans b
theorem flatMap_perm {α β : Type} {f g : α → List β} : ∀ {xs : List α}, (∀ x, x ∈ xs → (f x).Perm (g x)) → (xs.flatMap f).Perm (xs.flatMap g)
  | [], _ => .refl _
  | x :: xs, h => by
    rw [List.flatMap_cons, List.flatMap_cons]
    exact (h x (List.mem_cons_self ..)).append (flatMap_perm fun y hy => h y (List.mem_cons_of_mem _ hy))
theorem flatMap_map' {α β γ : Type} (f : α → β) (g : β → List γ) (xs : List α) : (xs.map f).flatMap g = xs.flatMap fun x => g (f x) := by
  induction xs with
  | nil => rfl
  | cons x xs ih => rw [List.map_cons, List.flatMap_cons, List.flatMap_cons, ih]
theorem map_flatMap' {α β γ : Type} (f : β → γ) (g : α → List β) (xs : List α) : (xs.flatMap g).map f = xs.flatMap fun x => (g x).map f := by
  induction xs with
  | nil => rfl
  | cons x xs ih => rw [List.flatMap_cons, List.map_append, List.flatMap_cons, ih]
abbrev renR (κ : List Nat) (r : List Nat) : List Nat := r.map κ.idxOf
theorem rows_ren (h : TbW many t) (hκ : Pm many κ) (hσ : Pm t.signs.length σ) : ∀ p : Pr, p.AllS (fun s _ => s < t.signs.length) → ∀ k, k < many → (rows (renT κ σ t) (p.ren σ) (κ.idxOf k)).Perm ((rows t p k).map (renR κ)) := by
  intro p
  refine Pr.ind' (P := fun p => p.AllS (fun s _ => s < t.signs.length) → ∀ k, k < many → (rows (renT κ σ t) (p.ren σ) (κ.idxOf k)).Perm ((rows t p k).map (renR κ))) (fun _ k _ => by rw [Pr.ren, rows, rows]; exact .refl _) ?_ p
  intro s ps ih hs k hk
  rw [Pr.AllS] at hs
  rw [Pr.ren, rows, rows]
  refine (perm_flatMap _ (ren_at h hκ hσ hs.1 hk)).trans ?_
  rw [flatMap_map', map_flatMap']
  refine flatMap_perm fun e he => ?_
  have z := h.e e (at_mem he).1
  have key : ∀ (ps : List Pr) (ks : List Nat), (∀ p, p ∈ ps → ∀ k, k < many → (rows (renT κ σ t) (p.ren σ) (κ.idxOf k)).Perm ((rows t p k).map (renR κ))) → (∀ k, k ∈ ks → k < many) → (rowss (renT κ σ t) (Pr.rens σ ps) (ks.map κ.idxOf)).Perm ((rowss t ps ks).map (renR κ)) := by
    intro ps
    induction ps with
    | nil => intro ks _ _; rw [Pr.rens, rowss_nil, rowss_nil]; exact .refl _
    | cons p ps ih =>
      intro ks h1 h2
      cases ks with
      | nil => rw [List.map_nil, rowss_nil2, rowss_nil2]; exact .refl _
      | cons k ks =>
        rw [Pr.rens, List.map_cons, rowss, rowss, map_flatMap']
        refine (perm_flatMap _ (h1 p (List.mem_cons_self ..) k (h2 k (List.mem_cons_self ..)))).trans ?_
        rw [flatMap_map']
        refine flatMap_perm fun r _ => ?_
        refine ((ih ks (fun q hq => h1 q (List.mem_cons_of_mem _ hq)) fun j hj => h2 j (List.mem_cons_of_mem _ hj)).map _).trans ?_
        rw [List.map_map, List.map_map]
        refine .of_eq (List.map_congr_left fun r' _ => ?_)
        simp only [Function.comp, renR, List.map_append]
  refine ((key ps e.ps (fun p hp => ih p hp (Pr.allSs_mem hs.2 hp)) z.2.1).map _).trans ?_
  rw [List.map_map, List.map_map]
  exact .of_eq (List.map_congr_left fun r _ => rfl)
theorem allRows_ren (h : TbW many t) (hκ : Pm many κ) (hσ : Pm t.signs.length σ) {p : Pr} (hp : p.AllS (fun s _ => s < t.signs.length)) : (allRows (renT κ σ t) (p.ren σ)).Perm ((allRows t p).map (renR κ)) := by
  unfold allRows
  have e : (renT κ σ t).many = many := h.m
  rw [e, h.m, map_flatMap']
  refine (perm_flatMap _ (hκ.bkp.symm)).trans ?_
  rw [bk, hκ.len, flatMap_map']
  refine flatMap_perm fun k hk => ?_
  exact rows_ren h hκ hσ p hp k (List.mem_range.mp hk)
/-- the readings in order -/
theorem readings_ren (h : TbW many t) (hκ : Pm many κ) (hσ : Pm t.signs.length σ) {p : Pr} (hp : p.AllS (fun s _ => s < t.signs.length)) : srt tN (allRows (renT κ σ t) (p.ren σ)) = srt tN ((srt tN (allRows t p)).map (renR κ)) :=
  srt_eq toks_tN ((allRows_ren h hκ hσ hp).trans ((srt_perm _).map _).symm)
/-! ### made kinds -/
inductive Mk (t : Tb) : Nat → Prop
  | mk (e : En) : e ∈ t.ents → (∀ q, q ∈ e.ps → Mk t q) → Mk t e.k
theorem mk_ren (h : TbW many t) (hκ : Pm many κ) (hσ : Pm t.signs.length σ) {k : Nat} (m : Mk t k) : Mk (renT κ σ t) (κ.idxOf k) := by
  induction m with
  | mk e he _ ih =>
    refine Mk.mk (renE κ σ e) (renT_perm.mem_iff.mpr (List.mem_map_of_mem he)) fun q hq => ?_
    obtain ⟨j, hj, rfl⟩ := List.mem_map.mp hq
    exact ih j hj
theorem mk_lt (h : TbW many t) {k : Nat} (m : Mk t k) : k < many := by
  cases m with
  | mk e he _ => exact (h.e e he).2.2
theorem ren_many : (renT κ σ t).signs.length = σ.length := List.length_map _
theorem mk_ren_iff (h : TbW many t) (hκ : Pm many κ) (hσ : Pm t.signs.length σ) {k : Nat} (hk : k < many) : Mk (renT κ σ t) (κ.idxOf k) ↔ Mk t k := by
  refine ⟨fun m => ?_, mk_ren h hκ hσ⟩
  have hσ' : Pm (renT κ σ t).signs.length (bk σ) := by rw [ren_many, hσ.len]; exact hσ.bkp
  have z := mk_ren (κ := bk κ) (σ := bk σ) (h.ren hκ hσ) hκ.bkp hσ' m
  rwa [renT_back h hκ hσ, hκ.bidx (hκ.ilt hk), hκ.get_idx hk] at z
open Classical in
/-- the made kinds, ascending -/
noncomputable def madeL (t : Tb) : List Nat := (List.range t.many).filter fun k => decide (Mk t k)
theorem madeL_ren (h : TbW many t) (hκ : Pm many κ) (hσ : Pm t.signs.length σ) : srt dN ((madeL t).map κ.idxOf) = madeL (renT κ σ t) := by
  have a1 : Asc dN (madeL (renT κ σ t)) := by
    refine (List.Pairwise.filter _ (List.pairwise_lt_range (n := (renT κ σ t).many))).imp fun {a b} r => ?_
    rw [PySem.W.dataLt_int, decide_eq_false_iff_not]
    omega
  refine (srt_eq toks_dN (ys := madeL (renT κ σ t)) ?_).trans (srt_self toks_dN a1)
  unfold madeL
  rw [h.m, show (renT κ σ t).many = many from h.m]
  refine List.Perm.trans ?_ ((hκ.bkp).filter _)
  rw [bk, hκ.len, List.filter_map]
  refine .of_eq (congrArg _ (List.filter_congr fun k hk => ?_))
  exact decide_eq_decide.mpr (mk_ren_iff h hκ hσ (List.mem_range.mp hk)).symm
/-! ### nodes without a reading -/
def cntS (t : Tb) (p : Pr) : Nat := ((List.range t.many).map (cnt t p)).sum
theorem cntS_ren (h : TbW many t) (hκ : Pm many κ) (hσ : Pm t.signs.length σ) {p : Pr} (hp : p.AllS (fun s _ => s < t.signs.length)) : cntS (renT κ σ t) (p.ren σ) = cntS t p := by
  unfold cntS
  rw [show (renT κ σ t).many = many from h.m, h.m]
  refine (sum_perm (hκ.bkp.map _).symm).trans ?_
  rw [bk, hκ.len, List.map_map]
  exact congrArg List.sum (List.map_congr_left fun k hk => cnt_ren h hκ hσ p hp k (List.mem_range.mp hk))
def sumsL (t : Tb) (p : Pr) : List Nat := p.subs.map (cntS t)
def unread (t : Tb) (p : Pr) : Option Nat :=
  if cntS t p > 0 then none else (List.range p.size).find? fun n => decide ((sumsL t p).getD n 0 = 0) && ((nodes p).getD n (none, [])).2.all fun m => decide ((sumsL t p).getD m 0 > 0)
mutual
theorem subs_allS {P : Nat → List Pr → Prop} : ∀ {p q : Pr}, p.AllS P → q ∈ p.subs → q.AllS P
  | .hole, q, h, m => by
    rw [Pr.subs, List.mem_singleton] at m
    rw [m]; exact h
  | .node s ps, q, h, m => by
    rw [Pr.subs] at m
    rcases List.mem_cons.mp m with e | m
    · rw [e]; exact h
    · rw [Pr.AllS] at h
      exact subss_allS h.2 m
theorem subss_allS {P : Nat → List Pr → Prop} : ∀ {ps : List Pr} {q : Pr}, Pr.AllSs P ps → q ∈ Pr.subss ps → q.AllS P
  | [], q, _, m => by rw [Pr.subss] at m; cases m
  | p :: ps, q, h, m => by
    rw [Pr.subss] at m
    rw [Pr.AllSs] at h
    rcases List.mem_append.mp m with m | m
    · exact subs_allS h.1 m
    · exact subss_allS h.2 m
end
theorem sumsL_ren (h : TbW many t) (hκ : Pm many κ) (hσ : Pm t.signs.length σ) {p : Pr} (hp : p.AllS (fun s _ => s < t.signs.length)) : sumsL (renT κ σ t) (p.ren σ) = sumsL t p := by
  unfold sumsL
  rw [Pr.ren_subs, List.map_map]
  exact List.map_congr_left fun q hq => cntS_ren h hκ hσ (subs_allS hp hq)
theorem unread_ren (h : TbW many t) (hκ : Pm many κ) (hσ : Pm t.signs.length σ) {p : Pr} (hp : p.AllS (fun s _ => s < t.signs.length)) : unread (renT κ σ t) (p.ren σ) = unread t p := by
  unfold unread
  rw [cntS_ren h hκ hσ hp, Pr.ren_size, sumsL_ren h hκ hσ hp, Pr.ren_nodes]
  have e : (fun n => decide ((sumsL t p).getD n 0 = 0) && (((nodes p).map (Pr.Nd.re σ)).getD n (none, [])).2.all fun m => decide ((sumsL t p).getD m 0 > 0)) = fun n => decide ((sumsL t p).getD n 0 = 0) && ((nodes p).getD n (none, [])).2.all fun m => decide ((sumsL t p).getD m 0 > 0) := by
    funext n
    have : (((nodes p).map (Pr.Nd.re σ)).getD n (none, [])).2 = ((nodes p).getD n (none, [])).2 := by
      rw [List.getD_eq_getElem?_getD, List.getD_eq_getElem?_getD, List.getElem?_map]
      cases (nodes p)[n]? <;> rfl
    rw [this]
  rw [e]
end
end K3
end

section
set_option autoImplicit true
set_option Elab.async false
set_option linter.all false
set_option maxRecDepth 100000
set_option maxHeartbeats 1000000
/-! _law_told -/
namespace K3
open PySem PySem.Spec PyProof.Rows L2
theorem num_tN : ∀ ns : List Nat, numDs (ns.map dN)
  | [] => by rw [List.map_nil, numDs]; trivial
  | n :: ns => by
    rw [List.map_cons, numDs]
    exact ⟨by rw [numD]; trivial, num_tN ns⟩
theorem num_en (e : En) : numD e.enc := by
  unfold En.enc
  rw [numD, numDs, numDs, numDs, numDs]
  exact ⟨by rw [numD]; trivial, by rw [numD]; exact num_tN _, by rw [numD]; trivial, trivial⟩
theorem depth_en8 (e : En) : e.enc.depth ≤ 8 := by
  unfold En.enc
  rw [PyData.depth, PyData.depthAll, PyData.depthAll, PyData.depthAll, PyData.depthAll, depth_tN]
  exact (by decide : max 0 (max 1 (max 0 0)) + 1 ≤ 8)
theorem alike_ens (es : List En) : PySem.W.AllAlike (es.map En.enc) := PySem.W.AllAlike.of alike_en
theorem sortable_ens (es : List En) : PySem.W.Sortable (es.map En.enc) := PySem.W.Sortable.tuples fun e => ⟨_, _, rfl⟩
section
variable {P : Program} {w : World} {K : PySem.W.Frag} {mg : Str → Option Value} {base : Heap}
abbrev n27 : List Str := ["_law_many", "_law_signs_here", "_law_entries"]
theorem sc27 : FnScope n27 n27 (defScope (top 27)) := ⟨rfl, rfl, rfl, by decide +kernel, rfl, by decide +kernel, by decide +kernel⟩
theorem ok_told (T : Tx K mg) : Told P w K mg base := by
  obtain ⟨f, fd, F, hmg⟩ := T.top (x := "_law_told") (j := 27) 16
  refine fnD_of F hmg sc27 (fun _ _ _ _ _ _ us hl => match us, hl with | [_, _, _], _ => rfl) (fun ds R h => by obtain ⟨_, _, _, rfl, _⟩ := h; rfl) fun cdv A outer s H E ds R hr h => ?_
  obtain ⟨many, σ, es, rfl, hz, hp, q⟩ := h
  refine wss_one (ws_ret (w_tup (wa_cons (w_var 0 rfl (wa_cons (w_var 1 rfl (wa_cons (w_tuple T ?_))))))))
  refine w_sortedSetN En.enc T hr rfl (w_sl (w_var 2 rfl (w_int ⟨24, rfl, sd_lst ⟨es.take 24, ?_, by rw [List.length_take]; omega, alike_ens _, sortable_ens _, fun e he => ⟨num_en e, depth_en8 e, _, rfl⟩, fun cs c1 c2 c3 c4 => ⟨_, rfl, wa_nil ⟨szl (Nat.le_of_ble_eq_true rfl), ?_⟩⟩⟩⟩)))
  · show PyData.list (cutD (es.map En.enc) none (some ((24 : Nat) : Int))) = _
    rw [cutD_upto, List.map_take]
  · rw [List.length_take] at c2
    exact q cs (fun c hc => List.mem_of_mem_take (c1 c hc)) (by omega) (lt_of_asc toks_en c4 c3)
end
end K3
end

section
set_option autoImplicit true
set_option Elab.async false
set_option linter.all false
set_option maxRecDepth 100000
set_option maxHeartbeats 1000000
/-! class Counted: what of its text the proof needs; the instance as a frozen thing. -/
namespace K3
open PySem PySem.Spec PyProof.Rows L2
/-- the class -/
abbrev cA (K : PySem.W.Frag) : Addr := He.ga K "Counted"
abbrev sA (K : PySem.W.Frag) (f : Str) : Addr := He.ma K (cA K) f
section
variable {K : PySem.W.Frag} {mg : Str → Option Value}
theorem Tx.cls (T : Tx K mg) : SlX.SCls K (cA K) := by
  have h := T.ex
  unfold exB clB at h
  simp only [Bool.and_eq_true] at h
  exact ⟨h.1.1, h.1.2.1, h.1.2.2.1, He.eqO_ok h.1.2.2.2⟩
theorem slB_ok {f : Str} {i : Nat} (hi : i < 1000) (h : slB K f i = true) : SlX.Slot1 K (cA K) f (sA K f) i := by
  unfold slB at h
  simp only [Bool.and_eq_true] at h
  exact ⟨He.eqO_ok h.1, He.eqO_ok h.2.1, of_decide_eq_true h.2.2.1, of_decide_eq_true h.2.2.2.1, of_decide_eq_true h.2.2.2.2, hi⟩
theorem Tx.sTable (T : Tx K mg) : SlX.Slot1 K (cA K) "its_table" (sA K "its_table") 2 := by
  have h := T.ex
  unfold exB at h
  simp only [Bool.and_eq_true] at h
  exact slB_ok (by decide) h.2.1
theorem Tx.sNodes (T : Tx K mg) : SlX.Slot1 K (cA K) "its_nodes" (sA K "its_nodes") 0 := by
  have h := T.ex
  unfold exB at h
  simp only [Bool.and_eq_true] at h
  exact slB_ok (by decide) h.2.2.1
theorem Tx.sNumbers (T : Tx K mg) : SlX.Slot1 K (cA K) "its_numbers" (sA K "its_numbers") 1 := by
  have h := T.ex
  unfold exB at h
  simp only [Bool.and_eq_true] at h
  exact slB_ok (by decide) h.2.2.2
/-- an instance of Counted that nothing writes any more: table, nodes, numbers -/
def IsO (K : PySem.W.Frag) (F : Hp) (v : V) (t n q : D) : Prop := ∃ (a dx : Addr) (vt vn vq : V), v = .ref a ∧ F a = some (SlX.SlO a (cA K) dx [some vn, some vq, some vt]) ∧ F dx = some (.xd []) ∧ Is K F vt t ∧ Is K F vn n ∧ Is K F vq q
theorem IsO.mono {F F' : Hp} {v : V} {t n q : D} (e : Ex F F') : IsO K F v t n q → IsO K F' v t n q := fun ⟨a, dx, vt, vn, vq, h1, h2, h3, h4, h5, h6⟩ => ⟨a, dx, vt, vn, vq, h1, e _ _ h2, e _ _ h3, h4.mono e, h5.mono e, h6.mono e⟩
def Sv.obj (t n q : D) : Sv K := ⟨fun F G v => ∃ u, v = some u ∧ IsO K F u t n q, fun e g ⟨u, h1, h2⟩ => ⟨u, h1, h2.mono e⟩⟩
end
section
variable {X : Cx} {S : Sto X.K} {Q : D → Prop} {x : Str} {px pos : Pos}
/-- self.f -/
theorem w_at {f : Str} {p : Addr} {j : Nat} {t n q d : D} (T : Tx X.K X.mg) (i : Nat) (hS : S[i]? = some (.obj t n q)) (sl : SlX.Slot1 X.K (cA X.K) f p j) (hj : [n, q, t][j]? = some d) (k : Q d) (hN : X.N[i]? = some x := by rfl) (hv : Vis X.env.scope x := by first | exact Or.inl rfl | exact Or.inr (Or.inl rfl) | exact Or.inr (Or.inr rfl))
    (hd : (x == ("__debug__" : Str)) = false := by decide) (hcd : (x == ("__classdict__" : Str)) = false := by decide) (hb : attributeBase (.Name x px) f X.env (eval (.Name x px) X.env) = eval (.Name x px) X.env := by rfl) : W X (.Attribute (.Name x px) f pos) S Q := fun ow H σ Q' st kk => by
  obtain ⟨u, eu, a, dx, vt, vn, vq, rfl, h1, h2, it, inn, iq⟩ := st.sl i _ hS
  obtain ⟨g1, _⟩ := pt_some h1
  obtain ⟨g2, _⟩ := pt_some h2
  have ev : ∃ v, [some vn, some vq, some vt][j]? = some (some v) ∧ Is X.K (fz ow H) v d := by
    match j, hj with
    | 0, hj => exact ⟨vn, rfl, by cases hj; exact inn⟩
    | 1, hj => exact ⟨vq, rfl, by cases hj; exact iq⟩
    | 2, hj => exact ⟨vt, rfl, by cases hj; exact it⟩
  obtain ⟨v, ev, iv⟩ := ev
  have es : σ[i]? = some (some (.ref a)) := by
    cases r : σ[i]? with
    | none =>
      rw [r] at eu
      cases eu
    | some z =>
      rw [r] at eu
      have e' : z = some (.ref a) := eu
      rw [e']
  refine PE.we (SlX.pe_sl (pe_var hN hv hd hcd) hb) ⟨_, es, a, cA X.K, dx, p, _, j, v, rfl, .inr ⟨g1, g2⟩, T.cls, sl, ev, ?_⟩
  exact kk d v ow H k st (Stp.refl _ _ _) iv
end
end K3
end

section
set_option autoImplicit true
set_option Elab.async false
set_option linter.all false
set_option maxRecDepth 100000
set_option maxHeartbeats 1000000
/-! methods of Counted: the promise, the rule. -/
namespace K3
open PySem PySem.Spec PyProof.Rows L2
abbrev Spo := D → D → D → List D → (D → Prop) → Prop
def spO (K : PySem.W.Frag) (spf : Spo) : Sp := fun vs H Q _ => ∃ (F : Hp) (v0 : V) (vs' : List V) (t n q : D) (ds : List D) (R : D → Prop), vs = v0 :: vs' ∧ Ex F H ∧ IsO K F v0 t n q ∧ IsA K F vs' ds ∧ spf t n q ds R ∧ ∀ (d : D) (v : V) (H' : Hp), R d → Ex H H' → Is K (cut F H H') v d → Q v H'
def SO {K : PySem.W.Frag} (n : Nat) (t m q : D) (ds : List D) : Sto K := .obj t m q :: (ds.map .dat ++ nos (n - 1 - ds.length))
theorem stdO {K : PySem.W.Frag} {F H : Hp} {N : List Str} {v0 : V} {vs : List V} {t n q : D} {ds : List D} (e : Ex F H) (h0 : IsO K F v0 t n q) (a : IsA K F vs ds) (hN : ds.length + 1 ≤ N.length) : Std K (ow0 F N.length) H (L2.start N (v0 :: vs)) (SO N.length t n q ds) := by
  have hl := a.length
  refine ⟨?_, fun i s h => ?_⟩
  · unfold SO nos
    rw [start_len (by rw [List.length_cons]; omega), List.length_cons, List.length_append, List.length_map, List.length_replicate]
    omega
  · rw [start_get, ow0_fz e]
    unfold SO nos at h
    cases i with
    | zero =>
      simp only [List.getElem?_cons_zero, Option.some.injEq] at h
      subst h
      exact ⟨v0, rfl, h0⟩
    | succ i =>
      rw [List.getElem?_cons_succ] at h ⊢
      by_cases hi : i < ds.length
      · rw [List.getElem?_append_left (by simpa using hi), List.getElem?_map] at h
        cases hd : ds[i]? with
        | none =>
          rw [hd] at h
          cases h
        | some d =>
          rw [hd] at h
          cases h
          obtain ⟨v, ev, iv⟩ := a.get hd
          rw [ev]
          exact ⟨v, rfl, iv⟩
      · rw [List.getElem?_append_right (by simpa using hi), List.getElem?_replicate] at h
        split at h
        · cases h
          exact trivial
        · cases h
/-- a method of the class -/
def MetN (P : Program) (w : World) (K : PySem.W.Frag) (mg : Str → Option Value) (base : Heap) (k : Nat) (m : Str) (ps : List Str) (sp : Sp) : Prop :=
  ∃ fd, Meth K (cA K) m (sA K m) ∧ Binds K fd ps [] ∧ FnG P w K mg base k (sA K m) fd ps sp
/-- THE RULE for a method -/
theorem fnO_of {P : Program} {w : World} {K : PySem.W.Frag} {mg : Str → Option Value} {base : Heap} {k : Nat} {x qual : Str} {st : Stmt} {fd : FuncData} {N ps : List Str} {spf : Spo}
    (Fd : L2.FunD K x qual (defArgs st) (defBody st) (defScope st) [] [] (sA K x) fd) (hm : Meth K (cA K) x (sA K x)) (S : FnScope N ps (defScope st))
    (hb : ∀ (kV doc pm : Value) (an : Option Addr) (cdv ct : Value) (us : List Value), us.length = ps.length → bindArgs (PySem.W.fnOf x qual (defArgs st) (defBody st) (defScope st) .none kV doc pm an cdv ct) ⟨us, []⟩ = pure (ps.zip us))
    (hlen : ∀ t n q ds R, spf t n q ds R → ds.length + 1 = ps.length)
    (hbody : ∀ (cdv : Value) (A : Around) (outer : List Env) (s : Shared) (H : Hp) (E : XK) (t n q : D) (ds : List D) (R : D → Prop), Rm k (A.deeper (envOfC qual (defScope st) s.heap.objs.size (sA K x) cdv)) → spf t n q ds R →
      WSs (Bx P w K mg base N qual (defScope st) (sA K x) cdv A outer s H E) (defBody st) (SO N.length t n q ds) { nx := fun _ => R .none, rt := fun d _ => R d }) :
    MetN P w K mg base (k + 1) x ps (spO K spf) := by
  refine ⟨fd, hm, FunD.bindsN Fd hb, ?_⟩
  obtain ⟨oc, od, dV, kV, doc, pm, an, cdv, ct, osl, rfl, lk, hcd, hdf, hkw⟩ := Fd.ex
  have hpN : ps.length ≤ N.length := by
    have e : (N.take ps.length).length = ps.length := congrArg List.length S.pre
    rw [List.length_take] at e
    omega
  refine fnG_of lk hcd S (fun vs H Q E h => ?_) fun A outer s H vs Q E hgd hr h => ?_
  · obtain ⟨F, v0, vs', t, n, q, ds, R, rfl, _, _, a, p, _⟩ := h
    rw [List.length_cons, a.length]
    exact hlen t n q ds R p
  · obtain ⟨F, v0, vs', t, n, q, ds, R, rfl, ex, h0, a, p, kk⟩ := h
    have hdl := hlen t n q ds R p
    have st0 := stdO (N := N) ex h0 a (by omega)
    have l0 : (SO (K := K) N.length t n q ds).length = N.length := by
      rw [st0.len]
      exact start_len (by rw [List.length_cons, a.length]; omega)
    refine hbody cdv A outer s H E t n q ds R ⟨hr, hgd⟩ p (ow0 F N.length) H (L2.start N (v0 :: vs')) _ st0 ⟨fun S' ow' H' σ' p l st' sp => ?_, fun d v S' ow' H' σ' p l st' sp i => ?_, fun S' ow' H' σ' p => p.elim, fun S' ow' H' σ' p => p.elim⟩
    · have sp' : Stp (SO (K := K) N.length t n q ds).length (ow0 F N.length) H ow' H' := sp
      rw [l0] at sp'
      obtain ⟨b1, b2⟩ := back0 ex sp'
      exact kk .none .non H' p b1 .non
    · have sp' : Stp (SO (K := K) N.length t n q ds).length (ow0 F N.length) H ow' H' := sp
      rw [l0] at sp'
      obtain ⟨b1, b2⟩ := back0 ex sp'
      exact kk d v H' p b1 (i.mono b2)
end K3
end

section
set_option autoImplicit true
set_option Elab.async false
set_option linter.all false
set_option maxRecDepth 100000
set_option maxHeartbeats 1000000
/-! self.m(e, ..) -/
namespace K3
open PySem PySem.Spec PyProof.Rows L2
section
variable {X : Cx} {S : Sto X.K} {Q : D → Prop} {x m : Str} {e : Expr} {es : List Expr} {px pos apos : Pos}
theorem w_meth {k j : Nat} {ps : List Str} {spf : Spo} {t n q : D} {pl : Sem Bool} (T : Tx X.K X.mg) (i : Nat) (G : MetN X.prog X.w X.K X.mg X.base j m ps (spO X.K spf)) (hr : Rm k X.A) (hjk : j ≤ k) (hS : S[i]? = some (.obj t n q))
    (h : WA X (e :: es) S fun ds => spf t n q ds Q) (hN : X.N[i]? = some x := by rfl) (hv : Vis X.env.scope x := by first | exact Or.inl rfl | exact Or.inr (Or.inl rfl) | exact Or.inr (Or.inr rfl))
    (hd : (x == ("__debug__" : Str)) = false := by decide) (hcd : (x == ("__classdict__" : Str)) = false := by decide)
    (hst : starEach (e :: es) X.env = (false, eval e X.env) :: starEach es X.env := by rfl) (hpl : (backTo pos (starEach es X.env)).any (·.1) = false := by rfl)
    (ht : eval (.Call (.Attribute (.Name x px) m apos) (e :: es) [] pos) X.env = (do
      let ov ← eval (.Name x px) X.env
      standAt apos.atName
      let (f, first) ← holding [ov] (getMethod ov m pl)
      callWith pos f first (backTo pos (starEach (e :: es) X.env)) (backToKw pos (keywordEach [] X.env))) := by rfl) : W X (.Call (.Attribute (.Name x px) m apos) (e :: es) [] pos) S Q := fun ow H σ Q' st kk => .mk fun pins s I => by
  obtain ⟨fd, hm, hb, F⟩ := G
  obtain ⟨u0, eu, a, dx, vt, vn, vq, rfl, h1, h2, it, inn, iq⟩ := st.sl i _ hS
  obtain ⟨g1, _⟩ := pt_some h1
  obtain ⟨g2, _⟩ := pt_some h2
  have es' : σ[i]? = some (some (.ref a)) := by
    cases r : σ[i]? with
    | none =>
      rw [r] at eu
      cases eu
    | some z =>
      rw [r] at eu
      have e' : z = some (.ref a) := eu
      rw [e']
  refine PySem.W.methodCall_KW (pl := pl) (thn ((pe_var hN hv hd hcd (pos := px)).run pins s σ H (fun v H1 => v = .ref a ∧ H1 = H) I ⟨_, es', rfl, rfl⟩) fun u s1 ⟨v, H1, I1, rv, e1, e2⟩ => ?_) ht
  subst e1
  subst e2
  obtain rfl : u = Value.ref a := rv
  refine SlX.getmethsl_ok I1 (.inr ⟨g1, g2⟩) T.cls hm ?_
  have hA := (h ow H1 σ (fun vs H2 => ∃ (ds : List D) (ow1 : Addr → Nat), spf t n q ds Q ∧ Std X.K ow1 H2 σ S ∧ Stp S.length ow H1 ow1 H2 ∧ IsA X.K (fz ow1 H2) vs ds) st (fun ds vs ow1 H2 q st1 e1 i1 => ⟨ds, ow1, q, st1, e1, i1⟩)).r pos pins s1 I1
  refine PySem.W.callWith_K (first := [.ref a]) (h₀ := X.base) I1.ok.mod.kin hm.kp (thn hA fun us s2 ⟨vs, H2, I2, r, ds, ow1, p, st1, e1, i1⟩ => ⟨I2.kIn, ?_⟩) hst hpl
  obtain ⟨u1, eu1, ob⟩ := st1.sl i _ hS
  have eu2 : u1 = .ref a := by
    rw [es'] at eu1
    exact (Option.some.inj eu1).symm
  rw [eu2] at ob
  refine run_fnG (us := .ref a :: us) (vs := .ref a :: vs) (E := fun _ _ _ => False) F hr.2 (hr.1.mono hjk) hb I2 (.cons rfl r) ⟨fz ow1 H2, .ref a, vs, t, n, q, ds, Q, rfl, pt_le, ob, i1, p, fun d v H' rq ex i => ?_⟩
  exact kk d v (nw ow1 H2) H' rq (st1.ext ex) (e1.trans (.ext ex)) (by rw [fz_nw]; exact i)
end
end K3
end

section
set_option Elab.async false
set_option linter.all false
set_option autoImplicit false
set_option maxRecDepth 100000
set_option maxHeartbeats 1000000
/-! Counted.ways, whole. -/
namespace K3
open PySem PySem.Spec PyProof.Rows L2
section
variable {X : Cx} {S : Sto X.K} {Q : D → Prop} {x m : Str} {px pos apos : Pos}
/-- self.m() -/
theorem w_meth0 {k j : Nat} {ps : List Str} {spf : Spo} {t n q : D} {pl : Sem Bool} (T : Tx X.K X.mg) (i : Nat) (G : MetN X.prog X.w X.K X.mg X.base j m ps (spO X.K spf)) (hr : Rm k X.A) (hjk : j ≤ k) (hS : S[i]? = some (.obj t n q))
    (h : spf t n q [] Q) (hN : X.N[i]? = some x := by rfl) (hv : Vis X.env.scope x := by first | exact Or.inl rfl | exact Or.inr (Or.inl rfl) | exact Or.inr (Or.inr rfl))
    (hd : (x == ("__debug__" : Str)) = false := by decide) (hcd : (x == ("__classdict__" : Str)) = false := by decide)
    (ht : eval (.Call (.Attribute (.Name x px) m apos) [] [] pos) X.env = (do
      let ov ← eval (.Name x px) X.env
      standAt apos.atName
      let (f, first) ← holding [ov] (getMethod ov m pl)
      callWith pos f first (backTo pos (starEach [] X.env)) (backToKw pos (keywordEach [] X.env))) := by rfl) : W X (.Call (.Attribute (.Name x px) m apos) [] [] pos) S Q := fun ow H σ Q' st kk => .mk fun pins s I => by
  obtain ⟨fd, hm, hb, F⟩ := G
  obtain ⟨u0, eu, ob⟩ := st.sl i _ hS
  obtain ⟨a, dx, vt, vn, vq, rfl, h1, h2, it, inn, iq⟩ := ob
  obtain ⟨g1, _⟩ := pt_some h1
  obtain ⟨g2, _⟩ := pt_some h2
  have es' : σ[i]? = some (some (.ref a)) := by
    cases r : σ[i]? with
    | none =>
      rw [r] at eu
      cases eu
    | some z =>
      rw [r] at eu
      have e' : z = some (.ref a) := eu
      rw [e']
  refine PySem.W.methodCall_KW (pl := pl) (thn ((pe_var hN hv hd hcd (pos := px)).run pins s σ H (fun v H1 => v = .ref a ∧ H1 = H) I ⟨_, es', rfl, rfl⟩) fun u s1 ⟨v, H1, I1, rv, e1, e2⟩ => ?_) ht
  subst e1
  subst e2
  obtain rfl : u = Value.ref a := rv
  refine SlX.getmethsl_ok I1 (.inr ⟨g1, g2⟩) T.cls hm ?_
  refine PySem.W.callWith_K0 (first := [.ref a]) I1.kIn hm.kp ?_
  refine run_fnG (us := [.ref a]) (vs := [.ref a]) (E := fun _ _ _ => False) F hr.2 (hr.1.mono hjk) hb I1 (.cons rfl .nil) ⟨fz ow H1, .ref a, [], t, n, q, [], Q, rfl, pt_le, ⟨a, dx, vt, vn, vq, rfl, h1, h2, it, inn, iq⟩, .nil, h, fun d v H' rq ex i => ?_⟩
  exact kk d v (nw ow H1) H' rq (st.ext ex) (.ext ex) (by rw [fz_nw]; exact i)
end
def waysP (Q : List (List Nat)) : List Nat → List Nat → Nat
  | a :: as, b :: bs => (Q.getD a []).getD b 0 * waysP Q as bs
  | _, _ => 1
theorem waysP_nil (Q : List (List Nat)) (bs : List Nat) : waysP Q [] bs = 1 := by
  rw [waysP]
  intro _ _ _ _ h
  cases h
theorem waysP_nil2 (Q : List (List Nat)) (as : List Nat) : waysP Q as [] = 1 := by
  cases as with
  | nil => exact waysP_nil Q []
  | cons a as =>
    rw [waysP]
    intro _ _ _ _ _ h
    cases h
/-- from the left -/
theorem waysP_snoc (Q : List (List Nat)) : ∀ (as bs : List Nat) (a b : Nat), as.length = bs.length → waysP Q (as ++ [a]) (bs ++ [b]) = waysP Q as bs * (Q.getD a []).getD b 0
  | [], [], a, b, _ => by rw [List.nil_append, List.nil_append, waysP, waysP_nil, Nat.mul_one, Nat.one_mul]
  | [], _ :: _, _, _, h => by simp at h
  | _ :: _, [], _, _, h => by simp at h
  | c :: as, d :: bs, a, b, h => by rw [List.cons_append, List.cons_append, waysP, waysP, waysP_snoc Q as bs a b (by simpa using h), Nat.mul_assoc]
section
variable {P : Program} {w : World} {K : PySem.W.Frag} {mg : Str → Option Value} {base : Heap}
theorem Tx.met (T : Tx K mg) {m : Str} (h : m ∈ meths3 := by decide +kernel) : Meth K (cA K) m (sA K m) := by
  have c := T.c
  have hin : He.Fa.meth "Counted" m ∈ fa3 := by
    unfold fa3
    exact List.mem_append_left _ (List.mem_append_right _ (List.mem_map_of_mem h))
  obtain ⟨i, hi⟩ := List.getElem?_of_mem hin
  exact He.meth_ok (c.fact i hi)
theorem Tx.metD (T : Tx K mg) {x q : Str} {j : Nat} (i : Nat) (h : fn3[i]? = some (dMet x q j) := by rfl) : ∃ fd, FunD K x q (defArgs (cSt j)) (defBody (cSt j)) (defScope (cSt j)) [] [] (sA K x) fd := T.c.def_ i h
/-! ### ways -/
abbrev numD' (Q : List (List Nat)) : D := .list (Q.map tN)
/-- the numbers of these parts are known, and their products are no greater than b -/
def WOk (Q : List (List Nat)) (as bs : List Nat) : Prop := as.length = bs.length ∧ ∀ i a b : Nat, as[i]? = some a → bs[i]? = some b → a < Q.length ∧ b < (Q.getD a []).length ∧ (Q.getD a []).getD b 0 ≤ 63403380965376
def spWays : Spo := fun t n q ds R => ∃ (Q : List (List Nat)) (as bs : List Nat), q = numD' Q ∧ ds = [tN as, tN bs] ∧ WOk Q as bs ∧ R (dN (waysP Q as bs))
abbrev n15_2 : List Str := ["self", "tops", "parts", "found", "top", "part"]
theorem sc15_2 : FnScope n15_2 ["self", "tops", "parts"] (defScope (cSt 2)) := ⟨rfl, rfl, rfl, by decide +kernel, rfl, by decide +kernel, by decide +kernel⟩
theorem ok_ways (T : Tx K mg) : MetN P w K mg base 1 "ways" ["self", "tops", "parts"] (spO K spWays) := by
  obtain ⟨fd, F⟩ := T.metD (x := "ways") (q := "Counted.ways") (j := 2) 38
  refine fnO_of F T.met sc15_2 (fun _ _ _ _ _ _ us hl => match us, hl with | [_, _, _], _ => rfl) (fun t n q ds R h => by obtain ⟨_, _, _, _, rfl, _⟩ := h; rfl) fun cdv A outer s H E t n q ds R hr h => ?_
  obtain ⟨Q, as, bs, rfl, rfl, ok, r⟩ := h
  refine wss_cons (ws_set 3 sc15_2.nd (w_int fun _ => ?_))
  refine wss_cons (ws_forT2 4 5 sc15_2.nd (wi_zipT rfl T.free (wa_cons (w_var 1 rfl (wa_cons (w_var 2 rfl (wa_nil ⟨_, _, rfl, ?_⟩)))))))
  have ez : ((as.map dN).zip (bs.map dN)).map (fun p => PyData.tuple [p.1, p.2]) = (as.zip bs).map fun p => PyData.tuple [dN p.1, dN p.2] := by
    rw [List.zip_map, List.map_map]
    rfl
  rw [ez]
  refine forQ_map (as.zip bs) (fun p => PyData.tuple [dN p.1, dN p.2]) (fun pr S' => ∃ (i j : Sv K), S' = [.obj t n (numD' Q), .dat (tN as), .dat (tN bs), .dat (dN (waysP Q (as.take pr.length) (bs.take pr.length))), i, j]) ⟨.no, .no, ?_⟩ (fun pr x post S' ee hl hs => ?_) (fun S' hl hs => fun _ => ?_)
  · rw [List.length_nil, List.take_zero, waysP_nil]
    rfl
  · obtain ⟨i, j, rfl⟩ := hs
    obtain ⟨a, b⟩ := x
    have hx : (as.zip bs)[pr.length]? = some (a, b) := by rw [ee, List.getElem?_append_right (Nat.le_refl _), Nat.sub_self]; rfl
    rw [List.getElem?_zip_eq_some] at hx
    obtain ⟨o1, o2, o3⟩ := ok.2 pr.length a b hx.1 hx.2
    have l1 := (List.getElem?_eq_some_iff.mp hx.1).1
    have l2 := (List.getElem?_eq_some_iff.mp hx.2).1
    have hstep : waysP Q (as.take pr.length) (bs.take pr.length) * (Q.getD a []).getD b 0 = waysP Q (as.take (pr.length + 1)) (bs.take (pr.length + 1)) := by
      rw [List.take_add_one, List.take_add_one, hx.1, hx.2]
      exact (waysP_snoc Q _ _ a b (by rw [List.length_take, List.length_take]; omega)).symm
    refine ⟨_, ⟨[dN a, dN b], rfl, rfl, rfl⟩, wss_one (ws_set 3 sc15_2.nd (w_op (w_var 3 rfl (w_ix (w_ix (w_at T 0 rfl T.sNumbers rfl (w_var 4 rfl (xd_lst (d := tN (Q.getD a [])) ?_ (w_var 5 rfl (xd_tup (d := dN ((Q.getD a []).getD b 0)) ?_ (od_mul (.inr ⟨by omega, ?_⟩) ⟨.dat (dN a), .dat (dN b), ?_⟩)))))))))))⟩
    · rw [List.getElem?_map, getD_of o1 []]
      rfl
    · rw [List.getElem?_map, getD_of o2 0]
      rfl
    · exact Int.lt_of_le_of_lt (Int.ofNat_le.mpr o3) (by decide)
    · have e1 : ((waysP Q (as.take pr.length) (bs.take pr.length) : Nat) : Int) * (((Q.getD a []).getD b 0 : Nat) : Int) = ((waysP Q (as.take (pr.length + 1)) (bs.take (pr.length + 1)) : Nat) : Int) := by
        rw [← hstep]
        rfl
      rw [e1, List.length_append, List.length_singleton]
      rfl
  · obtain ⟨i, j, rfl⟩ := hs
    have hl1 := ok.1
    refine wss_one (ws_ret (w_var 3 rfl ?_))
    rw [List.length_zip, ← hl1, Nat.min_self, List.take_length, hl1, List.take_length]
    exact r
/-! ### whole -/
def spWhole : Spo := fun t n q ds R => ∃ (Q : List (List Nat)) (r : List Nat), q = numD' Q ∧ ds = [] ∧ Q[0]? = some r ∧ R (dN r.sum)
theorem sc15_3 : FnScope ["self"] ["self"] (defScope (cSt 3)) := ⟨rfl, rfl, rfl, by decide +kernel, rfl, by decide +kernel, by decide +kernel⟩
theorem ok_whole (T : Tx K mg) : MetN P w K mg base 1 "whole" ["self"] (spO K spWhole) := by
  obtain ⟨fd, F⟩ := T.metD (x := "whole") (q := "Counted.whole") (j := 3) 39
  refine fnO_of F T.met sc15_3 (fun _ _ _ _ _ _ us hl => match us, hl with | [_], _ => rfl) (fun t n q ds R h => by obtain ⟨_, _, _, rfl, _⟩ := h; rfl) fun cdv A outer s H E t n q ds R hr h => ?_
  obtain ⟨Q, r, rfl, rfl, h0, z⟩ := h
  refine wss_one (ws_ret (w_sum T rfl (w_ix (w_at T 0 rfl T.sNumbers rfl (w_int (xd_lst (i := 0) (d := tN r) (by rw [List.getElem?_map, h0]; rfl) ⟨r.map Int.ofNat, .inr (by rw [tN, dN_map]), ?_⟩))))))
  rw [sum_ofNat]
  exact z
end
end K3
end

section
set_option Elab.async false
set_option linter.all false
set_option autoImplicit false
set_option maxRecDepth 100000
set_option maxHeartbeats 1000000
/-! Counted.entries_at -/
namespace K3
open PySem PySem.Spec PyProof.Rows L2
section
variable {P : Program} {w : World} {K : PySem.W.Frag} {mg : Str → Option Value} {base : Heap}
abbrev ndsD (ns : List Nd) : D := .list (ns.map Nd.enc)
/-- the entries of a node with a kind that come about -/
def entsAt (t : Tb) (Q : List (List Nat)) (tops : List Nat) (s k : Nat) : List En := (t.at s k).filter fun e => decide (0 < waysP Q tops e.ps)
def spEnts : Spo := fun td n q ds R => ∃ (t : Tb) (ns : List Nd) (Q : List (List Nat)) (node k s : Nat) (tops : List Nat), td = t.enc ∧ n = ndsD ns ∧ q = numD' Q ∧ ds = [dN node, dN k] ∧ t.ents.length ≤ 1000 ∧ ns[node]? = some (some s, tops) ∧
  (∀ e, e ∈ t.at s k → WOk Q tops e.ps) ∧ R (.list ((entsAt t Q tops s k).map fun e => tN e.ps))
abbrev n15_4 : List Str := ["self", "node", "kind", "found", "sign", "tops", "parts", "its", "whole"]
theorem sc15_4 : FnScope n15_4 ["self", "node", "kind"] (defScope (cSt 4)) := ⟨rfl, rfl, rfl, by decide +kernel, rfl, by decide +kernel, by decide +kernel⟩
theorem ok_ents (T : Tx K mg) : MetN P w K mg base 2 "entries_at" ["self", "node", "kind"] (spO K spEnts) := by
  obtain ⟨fd, F⟩ := T.metD (x := "entries_at") (q := "Counted.entries_at") (j := 4) 40
  refine fnO_of F T.met sc15_4 (fun _ _ _ _ _ _ us hl => match us, hl with | [_, _, _], _ => rfl) (fun t n q ds R h => by obtain ⟨_, _, _, _, _, _, _, _, _, _, rfl, _⟩ := h; rfl) fun cdv A outer s H E td n q ds R hr h => ?_
  obtain ⟨t, ns, Q, node, k, sg, tops, rfl, rfl, rfl, rfl, hz, hn, ok, r⟩ := h
  refine wss_cons (ws_unp2 4 5 sc15_4.nd (w_ix (w_at T 0 rfl T.sNodes rfl (w_var 1 rfl (xd_lst (d := Nd.enc (some sg, tops)) (by rw [List.getElem?_map, hn]; rfl) ⟨dN sg, tN tops, rfl, fun _ => ?_⟩)))))
  refine wss_cons (ws_lcT3 3 7 6 8 [("its", 7), ("parts", 6), ("whole", 8)] sc15_4.nd (blkOk_by (N := n15_4) (sc := defScope (cSt 4)) (by decide +kernel)) (idle3 rfl rfl rfl) (wi_tup (p := true) (w_ix (w_at T 0 rfl T.sTable rfl (w_int (xd_tup (i := 2) rfl ⟨_, rfl, ?_⟩))))))
  refine lcq_filter t.ents En.enc (fun e => decide (e.s = sg) && decide (e.k = k)) (fun e => tN e.ps) (slt (by omega)) (fun e he => ?_) (fun _ => ?_)
  · refine ⟨_, ⟨[dN e.s, tN e.ps, dN e.k], rfl, rfl, rfl⟩, fun s H C cl fp => wts_one (wt_pw (ww_and (wt_cmp (w_var 7 rfl (w_var 4 rfl (od_eq ⟨_, rfl, ite_dec (fun c => ?_) fun c => ?_⟩)))))), fun ht s H C cl fp => w_var 6 rfl rfl⟩
    · refine ww_and1 (wt_cmp (w_var 8 rfl (w_var 2 rfl (od_eq ⟨_, rfl, ?_⟩))))
      have c' : e.s = sg := Int.ofNat.inj c
      rw [decide_eq_true c', Bool.true_and]
      exact decide_eq_decide.mpr Int.ofNat_inj
    · have c' : ¬ e.s = sg := fun z => c (by rw [z])
      rw [decide_eq_false c', Bool.false_and]
  · refine wss_frz 3 rfl (wss_one (ws_ret (w_lcN 6 [("parts", 6)] sc15_4.nd (blkOk_by (N := n15_4) (sc := defScope (cSt 4)) (by decide +kernel)) (idle1 rfl) (wi_list (w_var 3 rfl ⟨_, rfl, ?_⟩)))))
    refine lcq_filter (t.at sg k) (fun e => tN e.ps) (fun e => decide (0 < waysP Q tops e.ps)) (fun e => tN e.ps) (slt (Nat.lt_of_le_of_lt (List.length_filter_le _ _) (by omega))) (fun e he => ?_) r
    refine ⟨_, rfl, fun s H C cl fp => wts_one (wt_cmp (w_meth T 0 (ok_ways T) hr (by decide) rfl (wa_cons (w_var 5 rfl (wa_cons (w_var 6 rfl (wa_nil ⟨Q, tops, e.ps, rfl, rfl, ok e he, w_int (od_gt ⟨_, rfl, ?_⟩)⟩))))))), fun ht s H C cl fp => w_var 6 rfl rfl⟩
    exact decide_eq_decide.mpr Int.ofNat_lt
end
end K3
end

section
set_option Elab.async false
set_option linter.all false
set_option autoImplicit false
set_option maxRecDepth 100000
set_option maxHeartbeats 1000000
/-! Plain: the readings in the order in which by_index tells them. -/
namespace K3
open PySem PySem.Spec PyProof.Rows L2
def firsts (n : Nat) (E : List En) : List Nat := (List.range n).filter fun a => E.any fun e => decide (e.ps.getD 0 0 = a)
def grp (E : List En) (a : Nat) : List En := E.filter fun e => decide (e.ps.getD 0 0 = a)
def later (E : List En) (a : Nat) : List Nat := (grp E a).map fun e => e.ps.getD 1 0
mutual
def ordR (t : Tb) : Pr → Nat → List (List Nat)
  | .hole, k => [[k]]
  | .node s ps, k => ordB t ps k ((t.at s k).filter fun e => decide (0 < cnts t ps e.ps))
def ordB (t : Tb) : List Pr → Nat → List En → List (List Nat)
  | [], k, E => E.map fun _ => [k]
  | p :: ps, k, E => (firsts t.many E).flatMap fun a => (ordR t p a).flatMap fun r => (restB t ps (later E a)).map fun r' => k :: (r ++ r')
def restB (t : Tb) : List Pr → List Nat → List (List Nat)
  | [], _ => [[]]
  | p :: _, ks => ks.flatMap fun b => ordR t p b
end
/-! ### orders -/
theorem flatMap_swap {α β γ : Type} (g : α → β → List γ) : ∀ (xs : List α) (ys : List β), (xs.flatMap fun x => ys.flatMap (g x)).Perm (ys.flatMap fun y => xs.flatMap fun x => g x y)
  | [], ys => by
    rw [List.flatMap_nil]
    induction ys with
    | nil => exact .refl _
    | cons y ys ih => rw [List.flatMap_cons]; exact ih
  | x :: xs, ys => by
    rw [List.flatMap_cons]
    refine ((flatMap_swap g xs ys).append_left _).trans ?_
    have key : ∀ (f h : β → List γ) (ys : List β), (ys.flatMap f ++ ys.flatMap h).Perm (ys.flatMap fun y => f y ++ h y) := by
      intro f h ys
      induction ys with
      | nil => exact .refl _
      | cons y ys ih =>
        rw [List.flatMap_cons, List.flatMap_cons, List.flatMap_cons]
        have e : (f y ++ ys.flatMap f ++ (h y ++ ys.flatMap h)).Perm (f y ++ h y ++ (ys.flatMap f ++ ys.flatMap h)) := by
          rw [List.append_assoc, List.append_assoc]
          refine List.Perm.append_left _ ?_
          rw [← List.append_assoc, ← List.append_assoc]
          exact List.perm_append_comm.append_right _
        exact e.trans (ih.append_left _)
    exact key (g x) (fun y => xs.flatMap fun x => g x y) ys
theorem flatMap_none {α β : Type} {f : α → List β} {t : α → Bool} : ∀ {xs : List α}, (∀ x, x ∈ xs → t x = false → f x = []) → xs.flatMap f = (xs.filter t).flatMap f
  | [], _ => rfl
  | x :: xs, h => by
    have ih := flatMap_none (f := f) (t := t) fun y hy => h y (List.mem_cons_of_mem x hy)
    cases z : t x with
    | true => rw [List.filter_cons_of_pos z, List.flatMap_cons, List.flatMap_cons, ih]
    | false => rw [List.filter_cons_of_neg (by rw [z]; decide), List.flatMap_cons, h x (List.mem_cons_self ..) z, ih]; rfl
/-- a list by what stands first -/
theorem grp_perm (n : Nat) : ∀ E : List En, (∀ e, e ∈ E → e.ps.getD 0 0 < n) → ((firsts n E).flatMap fun a => grp E a).Perm E := fun E hE => by
  have e1 : ((firsts n E).flatMap fun a => grp E a) = (List.range n).flatMap fun a => grp E a := by
    refine (flatMap_none fun a _ h => ?_).symm
    unfold grp
    rw [List.filter_eq_nil_iff]
    intro e he
    have := List.any_eq_false.mp h e he
    exact this
  rw [e1]
  have key : ∀ E : List En, (∀ e, e ∈ E → e.ps.getD 0 0 < n) → ((List.range n).flatMap fun a => grp E a).Perm E := by
    intro E
    induction E with
    | nil =>
      intro _
      have : ((List.range n).flatMap fun a => grp [] a) = [] := by
        rw [List.flatMap_eq_nil_iff]
        exact fun _ _ => rfl
      rw [this]
    | cons e E ih =>
      intro h
      have hk := h e (List.mem_cons_self ..)
      have ih' := ih fun x hx => h x (List.mem_cons_of_mem _ hx)
      obtain ⟨A, B, s⟩ := List.append_of_mem (List.mem_range.mpr hk)
      have sn : (A ++ e.ps.getD 0 0 :: B).Nodup := by rw [← s]; exact List.nodup_range
      rw [List.nodup_append] at sn
      obtain ⟨_, sn2, sn3⟩ := sn
      have ne : ∀ a, a ≠ e.ps.getD 0 0 → grp (e :: E) a = grp E a := fun a ha => by
        unfold grp
        rw [List.filter_cons_of_neg]
        simp only [decide_eq_true_eq]
        exact fun z => ha z.symm
      have eq : grp (e :: E) (e.ps.getD 0 0) = e :: grp E (e.ps.getD 0 0) := by
        unfold grp
        rw [List.filter_cons_of_pos (by simp)]
      rw [s, List.flatMap_append, List.flatMap_cons, eq] at ⊢
      rw [s, List.flatMap_append, List.flatMap_cons] at ih'
      rw [flatMap_cg (f := fun a => grp (e :: E) a) (g := fun a => grp E a) (xs := A) fun a ha => ne a (sn3 a ha _ (List.mem_cons_self ..))]
      rw [flatMap_cg (f := fun a => grp (e :: E) a) (g := fun a => grp E a) (xs := B) fun a ha => ne a fun z => (List.nodup_cons.mp sn2).1 (z ▸ ha)]
      rw [List.cons_append]
      exact List.perm_middle.trans (ih'.cons e)
  exact key E hE
theorem rowss_none {t : Tb} {ps : List Pr} {ks : List Nat} (h : ¬ 0 < cnts t ps ks) : rowss t ps ks = [] := by
  refine List.eq_nil_of_length_eq_zero ?_
  rw [rowss_len]
  omega
section
variable {many : Nat} {t : Tb}
theorem ar_of (h : TbW many t) {s : Nat} {ps : List Pr} (hs : t.signs[s]? = some ps.length) {k : Nat} {e : En} (he : e ∈ t.at s k) : e.ps.length = ps.length ∧ EnOk many t.signs e := by
  obtain ⟨h1, h2, _⟩ := at_mem he
  have z := h.e e h1
  refine ⟨?_, z⟩
  have y := z.1
  rw [h2, hs] at y
  exact (Option.some.inj y).symm
theorem ordR_perm (h : TbW many t) : ∀ p : Pr, PrOk t.signs p → ∀ k, (ordR t p k).Perm (rows t p k) := by
  intro p
  refine Pr.ind' (P := fun p => PrOk t.signs p → ∀ k, (ordR t p k).Perm (rows t p k)) (fun hp => absurd hp.2 (by rw [Pr.full]; exact id)) ?_ p
  intro s ps ih hp k
  obtain ⟨hpa, hpf⟩ := hp
  rw [Pr.AllS] at hpa
  rw [Pr.full] at hpf
  have hs := hpa.1
  have h2 := h.s2 _ (List.mem_of_getElem? hs)
  rw [ordR, rows, flatMap_none (t := fun e : En => decide (0 < cnts t ps e.ps)) (fun e _ z => by rw [rowss_none (by simpa using z)]; rfl)]
  have hE : ∀ e, e ∈ (t.at s k).filter (fun e => decide (0 < cnts t ps e.ps)) → e.ps.length = ps.length ∧ EnOk many t.signs e := fun e he => ar_of h hs (List.mem_filter.mp he).1
  have hN : ((t.at s k).filter fun e => decide (0 < cnts t ps e.ps)).Nodup := by
    unfold Tb.at
    exact ((Srt.nd h.o).filter _).filter _
  have hS : ∀ e, e ∈ (t.at s k).filter (fun e => decide (0 < cnts t ps e.ps)) → e.s = s ∧ e.k = k := fun e he => (at_mem (List.mem_filter.mp he).1).2
  generalize (t.at s k).filter (fun e => decide (0 < cnts t ps e.ps)) = E at *
  match ps, ih, hpa, hpf, h2, hE with
  | [], _, _, _, _, hE =>
    rw [ordB]
    have key : ∀ E : List En, (E.map fun _ => [k]) = E.flatMap fun e => (rowss t [] e.ps).map fun r => k :: r := by
      intro E
      induction E with
      | nil => rfl
      | cons e E ih =>
        rw [List.map_cons, List.flatMap_cons, rowss_nil, ih]
        rfl
    exact .of_eq (key E)
  | p1 :: ps, ih, hpa, hpf, h2, hE =>
    rw [ordB]
    rw [Pr.AllSs] at hpa
    rw [Pr.fulls] at hpf
    have hlt : ∀ e, e ∈ E → e.ps.getD 0 0 < many ∧ e.ps = e.ps.getD 0 0 :: e.ps.tail := fun e he => by
      obtain ⟨a1, a2⟩ := hE e he
      rw [List.length_cons] at a1
      cases z : e.ps with
      | nil => rw [z] at a1; simp at a1
      | cons x xs => exact ⟨a2.2.1 x (by rw [z]; exact List.mem_cons_self ..), rfl⟩
    refine List.Perm.trans ?_ (perm_flatMap _ (grp_perm t.many E fun e he => by rw [h.m]; exact (hlt e he).1))
    rw [List.flatMap_assoc]
    refine flatMap_perm fun a ha => ?_
    have hg : ∀ e, e ∈ grp E a → e ∈ E ∧ e.ps.getD 0 0 = a := fun e he => by
      unfold grp at he
      rw [List.mem_filter, decide_eq_true_eq] at he
      exact he
    have ih1 := ih p1 (List.mem_cons_self ..) ⟨hpa.2.1, hpf.1⟩ a
    have gne : ∃ e, e ∈ grp E a := by
      unfold firsts at ha
      obtain ⟨e, he, z⟩ := List.any_eq_true.mp (List.mem_filter.mp ha).2
      exact ⟨e, by unfold grp; exact List.mem_filter.mpr ⟨he, z⟩⟩
    match ps, ih, hpa, hpf, h2, hE with
    | [], _, _, _, _, hE =>
      have one : ∀ e, e ∈ grp E a → e = ⟨s, [a], k⟩ := fun e he => by
        obtain ⟨m1, m2⟩ := hg e he
        have m3 := (hlt e m1).2
        have m4 := (hE e m1).1
        rw [m2] at m3
        rw [m3, List.length_cons] at m4
        have m5 : e.ps.tail = [] := List.eq_nil_of_length_eq_zero (by simpa using m4)
        rw [m5] at m3
        obtain ⟨es, eps, ek⟩ := e
        have q := hS _ m1
        simp only at q m3
        rw [q.1, q.2, m3]
      have hG : grp E a = [⟨s, [a], k⟩] := by
        have nd : (grp E a).Nodup := hN.filter _
        obtain ⟨e, he⟩ := gne
        have e1 := one e he
        cases z : grp E a with
        | nil => rw [z] at he; cases he
        | cons x xs =>
          have ex := one x (by rw [z]; exact List.mem_cons_self ..)
          cases xs with
          | nil => rw [ex]
          | cons y ys =>
            have ey := one y (by rw [z]; exact List.mem_cons_of_mem _ (List.mem_cons_self ..))
            rw [z, ex, ey] at nd
            exact absurd (List.mem_cons_self ..) (List.nodup_cons.mp nd).1
      rw [hG, List.flatMap_cons, List.flatMap_nil, List.append_nil, restB, rowss, rowss_nil, map_flatMap']
      refine (perm_flatMap _ ih1).trans (.of_eq ?_)
      refine flatMap_cg fun r _ => rfl
    | [p2], ih, hpa, hpf, h2, hE =>
      have ih2 : ∀ b, (ordR t p2 b).Perm (rows t p2 b) := fun b => ih p2 (by simp) ⟨by have := hpa.2.2; rw [Pr.AllSs] at this; exact this.1, by have := hpf.2; rw [Pr.fulls] at this; exact this.1⟩ b
      rw [restB]
      refine (perm_flatMap _ ih1).trans ?_
      have e1 : ((grp E a).flatMap fun e => (rowss t [p1, p2] e.ps).map fun r => k :: r) = (grp E a).flatMap fun e => (rows t p1 a).flatMap fun r => (rows t p2 (e.ps.getD 1 0)).map fun r' => k :: (r ++ r') := by
        refine flatMap_cg fun e he => ?_
        obtain ⟨m1, m2⟩ := hg e he
        have m3 := (hlt e m1).2
        have m4 := (hE e m1).1
        rw [m2] at m3
        obtain ⟨b, eb⟩ : ∃ b, e.ps = [a, b] := by
          cases z : e.ps.tail with
          | nil => rw [m3, z] at m4; simp at m4
          | cons b bs =>
            rw [m3, z] at m4
            have : bs = [] := List.eq_nil_of_length_eq_zero (by simpa using m4)
            exact ⟨b, by rw [m3, z, this]⟩
        rw [eb]
        show _ = (rows t p1 a).flatMap fun r => (rows t p2 b).map fun r' => k :: (r ++ r')
        rw [rowss, rowss, map_flatMap']
        refine flatMap_cg fun r _ => ?_
        rw [rowss_nil2, List.map_map]
        have : ((rows t p2 b).flatMap fun r => [([] : List Nat)].map fun r' => r ++ r') = rows t p2 b := by
          generalize rows t p2 b = L
          induction L with
          | nil => rfl
          | cons x L ih => rw [List.flatMap_cons, ih]; simp
        rw [this]
        rfl
      rw [e1]
      refine List.Perm.trans ?_ (flatMap_swap (fun (r : List Nat) (e : En) => (rows t p2 (e.ps.getD 1 0)).map fun r' => k :: (r ++ r')) (rows t p1 a) (grp E a))
      refine flatMap_perm fun r _ => ?_
      rw [map_flatMap', later, flatMap_map']
      exact flatMap_perm fun e _ => (ih2 _).map _
    | _ :: _ :: _, _, _, _, h2, _ => simp at h2
theorem ordR_len (h : TbW many t) {p : Pr} (hp : PrOk t.signs p) (k : Nat) : (ordR t p k).length = cnt t p k := by rw [(ordR_perm h p hp k).length_eq, rows_len]
end
end K3
end

section
set_option Elab.async false
set_option linter.all false
set_option autoImplicit false
set_option maxRecDepth 100000
set_option maxHeartbeats 1000000
/-! Plain: these readings ascend. -/
namespace K3
open PySem PySem.Spec PyProof.Rows L2
def lexL : List Nat → List Nat → Bool
  | x :: xs, y :: ys => decide (x < y) || (decide (x = y) && lexL xs ys)
  | [], _ :: _ => true
  | _, [] => false
theorem lexL_same (k : Nat) (xs ys : List Nat) : lexL (k :: xs) (k :: ys) = lexL xs ys := by simp [lexL]
theorem lexL_lt {a b : Nat} (h : a < b) (xs ys : List Nat) : lexL (a :: xs) (b :: ys) = true := by simp [lexL, h]
theorem lexL_pre : ∀ (r xs ys : List Nat), lexL (r ++ xs) (r ++ ys) = lexL xs ys
  | [], _, _ => rfl
  | k :: r, xs, ys => by rw [List.cons_append, List.cons_append, lexL_same, lexL_pre r]
theorem lexL_app : ∀ (r r' xs ys : List Nat), r.length = r'.length → lexL r r' = true → lexL (r ++ xs) (r' ++ ys) = true
  | [], [], _, _, _, h => by simp [lexL] at h
  | [], _ :: _, _, _, h, _ => by simp at h
  | _ :: _, [], _, _, h, _ => by simp at h
  | a :: r, b :: r', xs, ys, hl, h => by
    rw [lexL, Bool.or_eq_true, Bool.and_eq_true, decide_eq_true_eq, decide_eq_true_eq] at h
    rcases h with h | ⟨rfl, h⟩
    · exact lexL_lt h _ _
    · rw [List.cons_append, List.cons_append, lexL_same]
      exact lexL_app r r' xs ys (by simpa using hl) h
theorem dlt_tN : ∀ xs ys : List Nat, PySem.W.dataLt (tN xs) (tN ys) = lexL xs ys := fun xs ys => by
  rw [tN, tN, PySem.W.dataLt_tuple]
  induction xs generalizing ys with
  | nil =>
    cases ys with
    | nil => exact lex_irrefl _
    | cons y ys =>
      rw [toks_cons, List.map_nil, PySem.W.keyToksAll, lex_diff (by simp), lexL]
      rfl
  | cons x xs ih =>
    cases ys with
    | nil =>
      rw [toks_cons, List.map_nil, PySem.W.keyToksAll, lex_diff (by simp), lexL]
      · rfl
      all_goals (intros; nofun)
    | cons y ys =>
      rw [toks_cons, toks_cons, lex_self, lexL]
      by_cases e : x = y
      · subst e
        rw [lex_self, ih ys]
        simp
      · rw [lex_diff (by simp only [ne_eq, Sum.inl.injEq]; exact fun z => e (Int.ofNat_inj.mp z))]
        have : decide (x = y) = false := decide_eq_false e
        rw [this, Bool.false_and, Bool.or_false]
        show decide ((x : Int) < (y : Int)) = decide (x < y)
        exact decide_eq_decide.mpr Int.ofNat_lt
theorem firsts_lt (n : Nat) (E : List En) : (firsts n E).Pairwise (· < ·) := by
  unfold firsts
  exact List.Pairwise.filter _ List.pairwise_lt_range
/-- entries of one sign, kind and first part: in order of the second -/
theorem en_second {s k a b b' : Nat} (h : PySem.W.dataLt (En.mk s [a, b] k).enc (En.mk s [a, b'] k).enc = true) : b < b' := by
  apply Classical.byContradiction
  intro c
  by_cases e : b = b'
  · subst e
    rw [dlt_irr] at h
    cases h
  · have z : PySem.W.dataLt (En.mk s [a, b'] k).enc (En.mk s [a, b] k).enc = true := by
      have key : ∀ x : Nat, PySem.W.keyToks (En.mk s [a, x] k).enc = [.inl 1, .inl (s : Int), .inl 1, .inl 1, .inl (a : Int), .inl 1] ++ (.inl (x : Int) :: .inl 0 :: .inl 1 :: .inl (k : Int) :: .inl 0 :: []) := fun x => by
        simp [En.enc, tN, PySem.W.keyToks, PySem.W.keyToksAll]
      unfold PySem.W.dataLt
      rw [key, key, PySem.W.lex_pre, lex_diff (by simp only [ne_eq, Sum.inl.injEq]; exact fun z => e (Int.ofNat_inj.mp z).symm)]
      show decide ((b' : Int) < (b : Int)) = true
      rw [decide_eq_true_eq]
      omega
    rw [dlt_asym h] at z
    cases z
section
variable {many : Nat} {t : Tb}
theorem two_of {e : En} {a : Nat} (h1 : e.ps.length = 2) (h2 : e.ps.getD 0 0 = a) : e.ps = [a, e.ps.getD 1 0] := by
  obtain ⟨es, eps, ek⟩ := e
  match eps, h1 with
  | [x, y], _ =>
    simp only at h2 ⊢
    rw [← h2]
    rfl
theorem later_lt (h : TbW many t) {s : Nat} {ps : List Pr} (hs : t.signs[s]? = some ps.length) (h2 : ps.length = 2) (k a : Nat) (f : En → Bool) : (later ((t.at s k).filter f) a).Pairwise (· < ·) := by
  unfold later grp
  refine List.pairwise_map.mpr ?_
  have so : (t.at s k).Pairwise fun a b => PySem.W.dataLt a.enc b.enc = true := by
    unfold Tb.at
    exact List.Pairwise.filter _ h.o
  refine (List.Pairwise.filter _ (List.Pairwise.filter _ so)).imp_of_mem fun {e e'} he he' r => ?_
  rw [List.mem_filter, List.mem_filter, decide_eq_true_eq] at he he'
  have a1 := two_of ((ar_of h hs he.1.1).1.trans h2) he.2
  have a2 := two_of ((ar_of h hs he'.1.1).1.trans h2) he'.2
  obtain ⟨_, b1, b2⟩ := at_mem he.1.1
  obtain ⟨_, c1, c2⟩ := at_mem he'.1.1
  obtain ⟨es, eps, ek⟩ := e
  obtain ⟨es', eps', ek'⟩ := e'
  simp only at b1 b2 c1 c2 a1 a2
  subst b1 b2 c1 c2
  rw [a1, a2] at r
  exact en_second r
/-- the readings of one length, with their kind on top, in order -/
structure Ord (p : Pr) (k : Nat) (L : List (List Nat)) : Prop where
  len : ∀ r, r ∈ L → r.length = p.size
  hd : ∀ r, r ∈ L → ∃ r', r = k :: r'
  asc : L.Pairwise fun r r' => lexL r r' = true
theorem rest_asc {f : Nat → List (List Nat)} {p : Pr} (h : ∀ b, Ord p b (f b)) {ks : List Nat} (hk : ks.Pairwise (· < ·)) : (ks.flatMap f).Pairwise fun r r' => lexL r r' = true := by
  refine List.pairwise_flatMap.mpr ⟨fun b _ => (h b).asc, hk.imp fun {a b} lt r hr r' hr' => ?_⟩
  obtain ⟨x, rfl⟩ := (h a).hd r hr
  obtain ⟨y, rfl⟩ := (h b).hd r' hr'
  exact lexL_lt lt _ _
theorem ordR_ord (h : TbW many t) : ∀ p : Pr, PrOk t.signs p → ∀ k, Ord p k (ordR t p k) := by
  intro p
  refine Pr.ind' (P := fun p => PrOk t.signs p → ∀ k, Ord p k (ordR t p k)) (fun hp => absurd hp.2 (by rw [Pr.full]; exact id)) ?_ p
  intro s ps ih hp k
  obtain ⟨hpa, hpf⟩ := hp
  rw [Pr.AllS] at hpa
  rw [Pr.full] at hpf
  have hs := hpa.1
  have h2 := h.s2 _ (List.mem_of_getElem? hs)
  rw [ordR]
  match ps, ih, hpa, hpf, h2, hs with
  | [], _, _, _, _, hs =>
    rw [ordB]
    have one : ∀ e, e ∈ t.at s k → e = ⟨s, [], k⟩ := fun e he => by
      obtain ⟨_, b1, b2⟩ := at_mem he
      have b3 : e.ps = [] := List.eq_nil_of_length_eq_zero (ar_of h hs he).1
      obtain ⟨es, eps, ek⟩ := e
      simp only at b1 b2 b3
      rw [b1, b2, b3]
    have nd : ((t.at s k).filter fun e => decide (0 < cnts t [] e.ps)).Nodup := by
      unfold Tb.at
      exact ((Srt.nd h.o).filter _).filter _
    refine ⟨fun r hr => ?_, fun r hr => ?_, List.pairwise_map.mpr (nd.imp_of_mem fun {e e'} he he' ne => ?_)⟩
    · obtain ⟨e, _, rfl⟩ := List.mem_map.mp hr
      rw [Pr.size, Pr.sizes]
      rfl
    · obtain ⟨e, _, rfl⟩ := List.mem_map.mp hr
      exact ⟨[], rfl⟩
    · exact absurd ((one e (List.mem_filter.mp he).1).trans (one e' (List.mem_filter.mp he').1).symm) ne
  | [p1], ih, hpa, hpf, h2, hs =>
    rw [ordB]
    simp only [restB]
    rw [Pr.AllSs] at hpa
    rw [Pr.fulls] at hpf
    have ih1 := fun a => ih p1 (List.mem_cons_self ..) ⟨hpa.2.1, hpf.1⟩ a
    have e1 : ∀ E : List En, ((firsts t.many E).flatMap fun a => (ordR t p1 a).flatMap fun r => [([] : List Nat)].map fun r' => k :: (r ++ r')) = ((firsts t.many E).flatMap fun a => ordR t p1 a).map fun r => k :: r := fun E => by
      rw [map_flatMap']
      refine flatMap_cg fun a _ => ?_
      generalize ordR t p1 a = L
      induction L with
      | nil => rfl
      | cons r L ih =>
        rw [List.flatMap_cons, ih, List.map_cons, List.map_nil, List.append_nil]
        rfl
    rw [e1]
    refine ⟨fun r hr => ?_, fun r hr => ?_, List.pairwise_map.mpr ((rest_asc ih1 (firsts_lt _ _)).imp fun {r r'} z => by rw [lexL_same]; exact z)⟩
    · obtain ⟨r', hr', rfl⟩ := List.mem_map.mp hr
      obtain ⟨a, _, ha⟩ := List.mem_flatMap.mp hr'
      rw [List.length_cons, (ih1 a).len r' ha, Pr.size, Pr.sizes, Pr.sizes]
      omega
    · obtain ⟨r', _, rfl⟩ := List.mem_map.mp hr
      exact ⟨r', rfl⟩
  | [p1, p2], ih, hpa, hpf, h2, hs =>
    rw [ordB]
    rw [Pr.AllSs, Pr.AllSs] at hpa
    rw [Pr.fulls, Pr.fulls] at hpf
    have ih1 := fun a => ih p1 (List.mem_cons_self ..) ⟨hpa.2.1, hpf.1⟩ a
    have ih2 := fun a => ih p2 (by simp) ⟨hpa.2.2.1, hpf.2.1⟩ a
    simp only [restB]
    refine ⟨fun r hr => ?_, fun r hr => ?_, List.pairwise_flatMap.mpr ⟨fun a ha => List.pairwise_flatMap.mpr ⟨fun r hr => List.pairwise_map.mpr ((rest_asc ih2 (later_lt h hs rfl k a _)).imp fun {x y} z => by rw [lexL_same, lexL_pre]; exact z), (ih1 a).asc.imp_of_mem fun {r r'} hr hr' z x hx y hy => ?_⟩, (firsts_lt _ _).imp fun {a b} lt x hx y hy => ?_⟩⟩
    · obtain ⟨a, _, ha⟩ := List.mem_flatMap.mp hr
      obtain ⟨r1, hr1, hm⟩ := List.mem_flatMap.mp ha
      obtain ⟨r2, hr2, rfl⟩ := List.mem_map.mp hm
      obtain ⟨b, _, hb⟩ := List.mem_flatMap.mp hr2
      rw [List.length_cons, List.length_append, (ih1 a).len r1 hr1, (ih2 b).len r2 hb, Pr.size, Pr.sizes, Pr.sizes, Pr.sizes]
      omega
    · obtain ⟨a, _, ha⟩ := List.mem_flatMap.mp hr
      obtain ⟨r1, hr1, hm⟩ := List.mem_flatMap.mp ha
      obtain ⟨r2, hr2, rfl⟩ := List.mem_map.mp hm
      exact ⟨_, rfl⟩
    · obtain ⟨x', _, rfl⟩ := List.mem_map.mp hx
      obtain ⟨y', _, rfl⟩ := List.mem_map.mp hy
      rw [lexL_same]
      exact lexL_app _ _ _ _ (by rw [(ih1 a).len r hr, (ih1 a).len r' hr']) z
    · obtain ⟨r1, hr1, hm⟩ := List.mem_flatMap.mp hx
      obtain ⟨x', _, rfl⟩ := List.mem_map.mp hm
      obtain ⟨r2, hr2, hm2⟩ := List.mem_flatMap.mp hy
      obtain ⟨y', _, rfl⟩ := List.mem_map.mp hm2
      obtain ⟨z1, rfl⟩ := (ih1 a).hd r1 hr1
      obtain ⟨z2, rfl⟩ := (ih1 b).hd r2 hr2
      rw [lexL_same, List.cons_append, List.cons_append]
      exact lexL_lt lt _ _
  | _ :: _ :: _ :: _, _, _, _, h2, _ => simp at h2
/-- .. so they are the readings, sorted -/
theorem ordR_all (h : TbW many t) {p : Pr} (hp : PrOk t.signs p) : (List.range t.many).flatMap (fun k => ordR t p k) = srt tN (allRows t p) := by
  refine ((srt_self toks_tN ?_).symm).trans (srt_eq toks_tN (flatMap_perm fun k _ => ordR_perm h p hp k))
  exact asc_of_lt ((rest_asc (fun k => ordR_ord h p hp k) List.pairwise_lt_range).imp fun {r r'} z => by rw [dlt_tN]; exact z)
end
end K3
end

section
set_option Elab.async false
set_option linter.all false
set_option autoImplicit false
set_option maxRecDepth 100000
set_option maxHeartbeats 1000000
/-! What by_index tells, plainly. -/
namespace K3
open PySem PySem.Spec PyProof.Rows L2
/-- the numbers at each node -/
def numsL (t : Tb) (p : Pr) : List (List Nat) := p.subs.map fun q => (List.range t.many).map (cnt t q)
theorem numsL_at {t : Tb} {p q : Pr} {m : Nat} (h : p.subs[m]? = some q) : (numsL t p)[m]? = some ((List.range t.many).map (cnt t q)) := by
  rw [numsL, List.getElem?_map, h]
  rfl
theorem range_getD (n : Nat) (f : Nat → Nat) {b : Nat} (h : b < n) : ((List.range n).map f).getD b 0 = f b := by
  rw [List.getD_eq_getElem?_getD, List.getElem?_map, List.getElem?_range h]
  rfl
mutual
theorem subs_size : ∀ {p q : Pr}, q ∈ p.subs → q.size ≤ p.size
  | .hole, q, h => by
    rw [Pr.subs, List.mem_singleton] at h
    rw [h]
    exact Nat.le_refl _
  | .node s ps, q, h => by
    rw [Pr.subs] at h
    rcases List.mem_cons.mp h with e | h
    · rw [e]
      exact Nat.le_refl _
    · have := subss_size h
      rw [Pr.size]
      omega
theorem subss_size : ∀ {ps : List Pr} {q : Pr}, q ∈ Pr.subss ps → q.size ≤ Pr.sizes ps
  | [], q, h => by rw [Pr.subss] at h; cases h
  | p :: ps, q, h => by
    rw [Pr.subss] at h
    rw [Pr.sizes]
    rcases List.mem_append.mp h with h | h
    · have := subs_size h
      omega
    · have := subss_size h
      omega
end
mutual
theorem subs_full : ∀ {p q : Pr}, p.full → q ∈ p.subs → q.full
  | .hole, q, h, _ => by rw [Pr.full] at h; exact h.elim
  | .node s ps, q, h, m => by
    rw [Pr.subs] at m
    rcases List.mem_cons.mp m with e | m
    · rw [e]
      exact h
    · rw [Pr.full] at h
      exact subss_full h m
theorem subss_full : ∀ {ps : List Pr} {q : Pr}, Pr.fulls ps → q ∈ Pr.subss ps → q.full
  | [], q, _, m => by rw [Pr.subss] at m; cases m
  | p :: ps, q, h, m => by
    rw [Pr.subss] at m
    rw [Pr.fulls] at h
    rcases List.mem_append.mp m with m | m
    · exact subs_full h.1 m
    · exact subss_full h.2 m
end
theorem subs_ok {σ : List Nat} {p q : Pr} (h : PrOk σ p) (m : q ∈ p.subs) : PrOk σ q := ⟨subs_allS h.1 m, subs_full h.2 m⟩
section
variable {many : Nat} {t : Tb}
theorem cnt_big (h : TbW many t) {q : Pr} (hz : q.size ≤ 10) (k : Nat) : cnt t q k ≤ 63403380965376 := Nat.le_trans (cnt_le t h.n q k) (pow24 hz)
/-- what ways tells, the numbers being the counts -/
theorem ways_cnts (h : TbW many t) {p : Pr} (hz : p.size ≤ 10) : ∀ (ps : List Pr) (tops ks : List Nat), tops.length = ps.length → ks.length = ps.length → (∀ i m : Nat, tops[i]? = some m → ∃ q', p.subs[m]? = some q' ∧ ps[i]? = some q') → (∀ k, k ∈ ks → k < many) →
    WOk (numsL t p) tops ks ∧ waysP (numsL t p) tops ks = cnts t ps ks
  | [], [], [], _, _, _, _ => ⟨⟨rfl, fun i a b e => by cases e⟩, by rw [waysP_nil, cnts_nil]⟩
  | [], _ :: _, _, h1, _, _, _ => by simp at h1
  | [], [], _ :: _, _, h2, _, _ => by simp at h2
  | q :: ps, [], _, h1, _, _, _ => by simp at h1
  | q :: ps, _ :: _, [], _, h2, _, _ => by simp at h2
  | q :: ps, m :: tops, k :: ks, h1, h2, hs, hk => by
    obtain ⟨q', e1, e2⟩ := hs 0 m rfl
    obtain rfl : q = q' := Option.some.inj e2
    have hkk := hk k (List.mem_cons_self ..)
    obtain ⟨w1, w2⟩ := ways_cnts h hz ps tops ks (by simpa using h1) (by simpa using h2) (fun i m e => by
      obtain ⟨q', a, b⟩ := hs (i + 1) m e
      exact ⟨q', a, b⟩) fun j hj => hk j (List.mem_cons_of_mem _ hj)
    have g : (numsL t p).getD m [] = (List.range t.many).map (cnt t q) := by
      rw [List.getD_eq_getElem?_getD, numsL_at e1]
      rfl
    have gk : ((numsL t p).getD m []).getD k 0 = cnt t q k := by rw [g, range_getD _ _ (by rw [h.m]; exact hkk)]
    refine ⟨⟨by rw [List.length_cons, List.length_cons, w1.1], fun i a b ea eb => ?_⟩, by rw [waysP, cnts, gk, w2]⟩
    cases i with
    | zero =>
      obtain rfl : m = a := Option.some.inj ea
      obtain rfl : k = b := Option.some.inj eb
      refine ⟨(List.getElem?_eq_some_iff.mp (numsL_at e1)).1, ?_, ?_⟩
      · rw [g, List.length_map, List.length_range, h.m]
        exact hkk
      · rw [gk]
        exact cnt_big h (Nat.le_trans (subs_size (List.mem_of_getElem? e1)) hz) k
    | succ i => exact w1.2 i a b ea eb
/-- the entries that entries_at tells -/
theorem ents_cnts (h : TbW many t) {p : Pr} (hz : p.size ≤ 10) {s : Nat} {ps : List Pr} {tops : List Nat} (hs : t.signs[s]? = some ps.length) (h1 : tops.length = ps.length) (ht : ∀ i m : Nat, tops[i]? = some m → ∃ q', p.subs[m]? = some q' ∧ ps[i]? = some q') (k : Nat) :
    (∀ e, e ∈ t.at s k → WOk (numsL t p) tops e.ps) ∧ entsAt t (numsL t p) tops s k = (t.at s k).filter fun e => decide (0 < cnts t ps e.ps) := by
  have key : ∀ e, e ∈ t.at s k → WOk (numsL t p) tops e.ps ∧ waysP (numsL t p) tops e.ps = cnts t ps e.ps := fun e he => by
    obtain ⟨a, b⟩ := ar_of h hs he
    exact ways_cnts h hz ps tops e.ps h1 a ht b.2.1
  exact ⟨fun e he => (key e he).1, List.filter_congr fun e he => by rw [(key e he).2]⟩
end
/-! ### lists by blocks -/
theorem mid_getD {α : Type} (A B C : List α) {i : Nat} (d : α) (h1 : A.length ≤ i) (h2 : i - A.length < B.length) : (A ++ B ++ C).getD i d = B.getD (i - A.length) d := by
  rw [List.getD_eq_getElem?_getD, List.getD_eq_getElem?_getD, List.append_assoc, List.getElem?_append_right h1, List.getElem?_append_left h2]
theorem prod_getD {α β γ : Type} (f : α → β → γ) (ys : List β) (d : γ) (dx : α) (dy : β) : ∀ (xs : List α) (i : Nat), i < xs.length * ys.length → (xs.flatMap fun x => ys.map (f x)).getD i d = f (xs.getD (i / ys.length) dx) (ys.getD (i % ys.length) dy)
  | [], i, h => by simp at h
  | x :: xs, i, h => by
    rw [List.length_cons, Nat.succ_mul] at h
    have m0 : 0 < ys.length := by
      apply Classical.byContradiction
      intro c
      have e : ys.length = 0 := by omega
      rw [e] at h
      omega
    rw [List.flatMap_cons]
    by_cases c : i < ys.length
    · rw [List.getD_eq_getElem?_getD, List.getElem?_append_left (by rw [List.length_map]; exact c), List.getElem?_map, Nat.div_eq_of_lt c, Nat.mod_eq_of_lt c, getD_of c dy]
      rfl
    · have ih := prod_getD f ys d dx dy xs (i - ys.length) (by omega)
      have e1 : i / ys.length = (i - ys.length) / ys.length + 1 := by rw [Nat.div_eq_sub_div m0 (by omega)]
      have e2 : i % ys.length = (i - ys.length) % ys.length := Nat.mod_eq_sub_mod (by omega)
      rw [List.getD_eq_getElem?_getD, List.getElem?_append_right (by rw [List.length_map]; omega), List.length_map, ← List.getD_eq_getElem?_getD, ih, e1, e2]
      rfl
theorem prod_len {α β γ : Type} (f : α → β → γ) (xs : List α) (ys : List β) : (xs.flatMap fun x => ys.map (f x)).length = xs.length * ys.length := flatMap_len xs _ ys.length fun x => List.length_map _
end K3
end

section
set_option Elab.async false
set_option linter.all false
set_option autoImplicit false
set_option maxRecDepth 100000
set_option maxHeartbeats 2000000
/-! Counted.by_index -/
namespace K3
open PySem PySem.Spec PyProof.Rows L2
/-- one of some kinds -/
def restR (t : Tb) (q : Pr) (ks : List Nat) : List (List Nat) := ks.flatMap fun b => ordR t q b
theorem restR_len {many : Nat} {t : Tb} (h : TbW many t) {q : Pr} (hq : PrOk t.signs q) (ks : List Nat) : (restR t q ks).length = (ks.map (cnt t q)).sum := flatMap_len' _ _ _ fun b => ordR_len h hq b
section
variable {P : Program} {w : World} {K : PySem.W.Frag} {mg : Str → Option Value} {base : Heap}
structure IxOk (many : Nat) (t : Tb) (p q : Pr) (node : Nat) : Prop where
  w : TbW many t
  pr : PrOk t.signs p
  z : p.size ≤ 10
  at_ : p.subs[node]? = some q
def spIdx (n : Nat) : Spo := fun td nd q ds R => ∃ (many : Nat) (t : Tb) (p p' : Pr) (node k i : Nat), td = t.enc ∧ nd = ndsD (nodes p) ∧ q = numD' (numsL t p) ∧ ds = [dN node, dN k, dN i] ∧ IxOk many t p p' node ∧ p'.depth ≤ n ∧ k < many ∧
  i < cnt t p' k ∧ cnt t p' k ≤ 300 ∧ R (tN ((ordR t p' k).getD i []))
def spRest (n : Nat) : Spo := fun td nd q ds R => ∃ (many : Nat) (t : Tb) (p p' : Pr) (node : Nat) (ks : List Nat) (i : Nat), td = t.enc ∧ nd = ndsD (nodes p) ∧ q = numD' (numsL t p) ∧ ds = [dN node, .list (ks.map dN), dN i] ∧ IxOk many t p p' node ∧ p'.depth ≤ n ∧
  (∀ k, k ∈ ks → k < many) ∧ ks.length ≤ 1000 ∧ i < (restR t p' ks).length ∧ (restR t p' ks).length ≤ 300 ∧ R (tN ((restR t p' ks).getD i []))
abbrev n15_6 : List Str := ["self", "node", "kinds", "index", "kind"]
theorem sc15_6 : FnScope n15_6 ["self", "node", "kinds", "index"] (defScope (cSt 6)) := ⟨rfl, rfl, rfl, by decide +kernel, rfl, by decide +kernel, by decide +kernel⟩
theorem go_rest (T : Tx K mg) (n : Nat) (ihI : MetN P w K mg base (2 * n + 3) "by_index" ["self", "node", "kind", "index"] (spO K (spIdx n))) : MetN P w K mg base (2 * n + 4) "by_rest" ["self", "node", "kinds", "index"] (spO K (spRest n)) := by
  obtain ⟨fd, F⟩ := T.metD (x := "by_rest") (q := "Counted.by_rest") (j := 6) 42
  refine fnO_of F T.met sc15_6 (fun _ _ _ _ _ _ us hl => match us, hl with | [_, _, _, _], _ => rfl) (fun t n q ds R h => by obtain ⟨_, _, _, _, _, _, _, _, _, _, rfl, _⟩ := h; rfl) fun cdv A outer s H E td nd q ds R hr h => ?_
  obtain ⟨many, t, p, p', node, ks, i, rfl, rfl, rfl, rfl, ok, hd, hk, hkl, hi, hb, r⟩ := h
  have hp' := subs_ok ok.pr (List.mem_of_getElem? ok.at_)
  refine wss_cons (ws_forN 4 sc15_6.nd (wi_list (w_var 2 rfl ⟨_, rfl, ?_⟩)))
  refine forQ_map ks dN (fun pre S' => (restR t p' pre).length ≤ i ∧ ∃ c : Sv K, S' = [.obj t.enc (ndsD (nodes p)) (numD' (numsL t p)), .dat (dN node), .dat (.list (ks.map dN)), .dat (dN (i - (restR t p' pre).length)), c]) ⟨Nat.zero_le _, .no, rfl⟩ (fun pre k post S' ee hl hs => ?_) (fun S' hl hs => fun _ => ?_)
  · obtain ⟨hle, c, rfl⟩ := hs
    have hkm : k < many := hk k (by rw [ee]; simp)
    have hkt : k < t.many := by rw [ok.w.m]; exact hkm
    have split : restR t p' ks = restR t p' pre ++ ordR t p' k ++ restR t p' post := by
      rw [ee]
      unfold restR
      rw [List.flatMap_append, List.flatMap_cons, List.append_assoc]
    have lk := ordR_len ok.w hp' k
    refine ⟨_, rfl, wss_cons (ws_if (wt_cmp (w_var 3 rfl (w_ix (w_ix (w_at T 0 rfl T.sNumbers rfl (w_var 1 rfl (xd_lst (d := tN ((List.range t.many).map (cnt t p'))) (by rw [List.getElem?_map, numsL_at ok.at_]; rfl) (w_var 4 rfl (xd_tup (d := dN (cnt t p' k)) (by rw [List.getElem?_map, List.getElem?_map, List.getElem?_range hkt]; rfl) (od_lt ⟨_, rfl, ite_dec (fun cc => ?_) fun cc => ?_⟩)))))))))))⟩
    · have cc' : i - (restR t p' pre).length < cnt t p' k := Int.ofNat_lt.mp cc
      refine wss_one (ws_ret (w_meth T 0 ihI hr (by omega) rfl (wa_cons (w_var 1 rfl (wa_cons (w_var 4 rfl (wa_cons (w_var 3 rfl (wa_nil ⟨many, t, p, p', node, k, _, rfl, rfl, rfl, rfl, ok, hd, hkm, cc', ?_, ?_⟩)))))))))
      · rw [split, List.length_append, List.length_append, lk] at hb
        omega
      · rw [split, mid_getD _ _ _ _ hle (by rw [lk]; exact cc')] at r
        exact r
    · have cc' : ¬ i - (restR t p' pre).length < cnt t p' k := fun z => cc (Int.ofNat_lt.mpr z)
      refine wss_nil fun _ => wss_one (ws_aug 3 ip_sub sc15_6.nd rfl (w_ix (w_ix (w_at T 0 rfl T.sNumbers rfl (w_var 1 rfl (xd_lst (d := tN ((List.range t.many).map (cnt t p'))) (by rw [List.getElem?_map, numsL_at ok.at_]; rfl) (w_var 4 rfl (xd_tup (d := dN (cnt t p' k)) (by rw [List.getElem?_map, List.getElem?_map, List.getElem?_range hkt]; rfl) ⟨_, rfl, ?_, .dat (dN k), ?_⟩))))))))
      · unfold restR at *
        rw [List.flatMap_append, List.length_append, List.flatMap_cons, List.flatMap_nil, List.append_nil, lk]
        omega
      · have e1 : (((i - (restR t p' pre).length : Nat) : Int) - ((cnt t p' k : Nat) : Int)) = ((i - (restR t p' (pre ++ [k])).length : Nat) : Int) := by
          have : (restR t p' (pre ++ [k])).length = (restR t p' pre).length + cnt t p' k := by
            unfold restR
            rw [List.flatMap_append, List.length_append, List.flatMap_cons, List.flatMap_nil, List.append_nil, lk]
          rw [this]
          omega
        rw [e1]
        rfl
  · obtain ⟨hle, c, rfl⟩ := hs
    omega
end
end K3
end

section
set_option Elab.async false
set_option linter.all false
set_option autoImplicit false
set_option maxRecDepth 100000
set_option maxHeartbeats 2000000
/-! Counted.by_index -/
namespace K3
open PySem PySem.Spec PyProof.Rows L2
section
variable {many : Nat} {t : Tb}
/-- the readings that begin with a -/
def blk (t : Tb) (p1 : Pr) (rest : List Pr) (k : Nat) (E : List En) (a : Nat) : List (List Nat) := (ordR t p1 a).flatMap fun r => (restB t rest (later E a)).map fun r' => k :: (r ++ r')
theorem blk_len (h : TbW many t) {p1 : Pr} (h1 : PrOk t.signs p1) (rest : List Pr) (k : Nat) (E : List En) (a : Nat) : (blk t p1 rest k E a).length = cnt t p1 a * (restB t rest (later E a)).length := by
  unfold blk
  rw [prod_len, ordR_len h h1]
theorem firsts_mem {n a : Nat} {E : List En} : a ∈ firsts n E ↔ a < n ∧ ∃ e, e ∈ E ∧ e.ps.getD 0 0 = a := by
  unfold firsts
  rw [List.mem_filter, List.mem_range, List.any_eq_true]
  simp only [decide_eq_true_eq]
theorem ints_sorted {ns : List Nat} {ms : List Int} (h1 : ms.Pairwise (· < ·)) (h2 : ns.Pairwise (· < ·)) (h3 : ∀ k : Int, k ∈ ms ↔ k ∈ ns.map Int.ofNat) : ms = ns.map Int.ofNat := by
  have h2' : (ns.map Int.ofNat).Pairwise (· < ·) := List.pairwise_map.mpr (h2.imp fun {a b} lt => Int.ofNat_lt.mpr lt)
  refine sorted_eq (R := (· < ·)) (fun a _ b _ r1 r2 => absurd (Int.lt_trans r1 r2) (Int.lt_irrefl _)) h1 h2' ?_
  refine (List.perm_ext_iff_of_nodup (h1.imp fun {a b} lt => Int.ne_of_lt lt) (h2'.imp fun {a b} lt => Int.ne_of_lt lt)).mpr h3
theorem ediv_N (a b : Nat) : ((a : Int) / (b : Int)) = ((a / b : Nat) : Int) := (Int.natCast_ediv a b).symm
theorem emod_N (a b : Nat) : ((a : Int) % (b : Int)) = ((a % b : Nat) : Int) := (Int.natCast_emod a b).symm
end
section
variable {P : Program} {w : World} {K : PySem.W.Frag} {mg : Str → Option Value} {base : Heap}
abbrev n15_5 : List Str := ["self", "node", "kind", "index", "numbers", "first", "tops", "some", "later", "side", "found", "parts", "part"]
theorem sc15_5 : FnScope n15_5 ["self", "node", "kind", "index"] (defScope (cSt 5)) := ⟨rfl, rfl, rfl, by decide +kernel, rfl, by decide +kernel, by decide +kernel⟩
theorem go_index (T : Tx K mg) (n : Nat) (ihI : ∀ m, n = m + 1 → MetN P w K mg base (2 * m + 3) "by_index" ["self", "node", "kind", "index"] (spO K (spIdx m)))
    (ihR : ∀ m, n = m + 1 → MetN P w K mg base (2 * m + 4) "by_rest" ["self", "node", "kinds", "index"] (spO K (spRest m))) : MetN P w K mg base (2 * n + 3) "by_index" ["self", "node", "kind", "index"] (spO K (spIdx n)) := by
  obtain ⟨fd, F⟩ := T.metD (x := "by_index") (q := "Counted.by_index") (j := 5) 41
  refine fnO_of F T.met sc15_5 (fun _ _ _ _ _ _ us hl => match us, hl with | [_, _, _, _], _ => rfl) (fun t n q ds R h => by obtain ⟨_, _, _, _, _, _, _, _, _, _, rfl, _⟩ := h; rfl) fun cdv A outer s H E td nd q ds R hr h => ?_
  obtain ⟨many, t, p, p', node, k, i, rfl, rfl, rfl, rfl, ok, hd, hk, hi, hb, r⟩ := h
  have hp' := subs_ok ok.pr (List.mem_of_getElem? ok.at_)
  obtain ⟨x, nx⟩ := Pr.node_at p node p' ok.at_
  cases p' with
  | hole => exact absurd hp'.2 (by rw [Pr.full]; exact id)
  | node sg ps =>
    obtain ⟨xs, tops⟩ := x
    have xe : xs = some sg := nx.sg
    subst xe
    have tl : tops.length = ps.length := nx.len
    obtain ⟨hpa, hpf⟩ := hp'
    rw [Pr.AllS] at hpa
    rw [Pr.full] at hpf
    have hs := hpa.1
    have h2 := ok.w.s2 _ (List.mem_of_getElem? hs)
    have ht : ∀ i m : Nat, tops[i]? = some m → ∃ q', p.subs[m]? = some q' ∧ ps[i]? = some q' := fun i m e => (nx.tops i m e).2
    obtain ⟨en1, en2⟩ := ents_cnts ok.w ok.z hs tl ht k
    refine wss_cons (ws_tup2 6 7 sc15_5.nd (wva_cons (wv_dat (w_ix (w_ix (w_at T 0 rfl T.sNodes rfl (w_var 1 rfl (xd_lst (d := Nd.enc (some sg, tops)) (by rw [List.getElem?_map, nx.get]; rfl) (w_int (xd_tup (i := 1) (d := tN tops) rfl (wva_cons (wv_dat (w_meth T 0 (ok_ents T) hr (by omega) rfl (wa_cons (w_var 1 rfl (wa_cons (w_var 2 rfl (wa_nil ⟨t, nodes p, numsL t p, node, k, sg, tops, rfl, rfl, rfl, rfl, Nat.le_trans ok.w.n (by decide), nx.get, en1, wva_nil ⟨rfl, fun _ => ?_⟩⟩))))))))))))))))))
    rw [en2]
    have ar : ∀ e, e ∈ (t.at sg k).filter (fun e => decide (0 < cnts t ps e.ps)) → e.ps.length = ps.length ∧ EnOk many t.signs e := fun e he => ar_of ok.w hs (List.mem_filter.mp he).1
    have lE : ((t.at sg k).filter fun e => decide (0 < cnts t ps e.ps)).length ≤ 24 := Nat.le_trans (List.length_filter_le _ _) (Nat.le_trans (List.length_filter_le _ _) ok.w.n)
    have hfull : (ordB t ps k ((t.at sg k).filter fun e => decide (0 < cnts t ps e.ps))).length = cnt t (.node sg ps) k := by
      have := ordR_len ok.w (p := .node sg ps) ⟨by rw [Pr.AllS]; exact hpa, by rw [Pr.full]; exact hpf⟩ k
      rwa [ordR] at this
    rw [ordR] at r
    rw [← hfull] at hi hb
    clear hfull en1 en2
    generalize (t.at sg k).filter (fun e => decide (0 < cnts t ps e.ps)) = E at *
    cases ps with
    | nil =>
      rw [ordB] at r hi
      refine wss_cons (ws_if (wt_cmp (w_len T (w_var 6 rfl ⟨_, .inr rfl, w_int (od_eq ⟨_, rfl, ?_⟩)⟩))))
      rw [List.length_map, tl]
      refine wss_one (ws_ret (w_tup (wa_cons (w_var 2 rfl (wa_nil ⟨szl (Nat.le_of_ble_eq_true rfl), ?_⟩)))))
      rw [List.length_map] at hi
      have e1 : (E.map fun _ => [k]).getD i [] = [k] := by
        rw [List.getD_eq_getElem?_getD, List.getElem?_map, List.getElem?_eq_getElem hi]
        rfl
      rw [e1] at r
      exact r
    | cons p1 rest =>
      obtain ⟨m, rfl⟩ : ∃ m, n = m + 1 := ⟨n - 1, by rw [Pr.depth] at hd; omega⟩
      rw [Pr.AllSs] at hpa
      rw [Pr.fulls] at hpf
      have h1 : PrOk t.signs p1 := ⟨hpa.2.1, hpf.1⟩
      have d1 : p1.depth ≤ m := Pr.depth_part hd (List.mem_cons_self ..)
      rw [List.length_cons] at tl h2
      obtain ⟨top, tops', rfl⟩ : ∃ top tops', tops = top :: tops' := by
        cases tops with
        | nil => simp at tl
        | cons a b => exact ⟨a, b, rfl⟩
      obtain ⟨q1, s1, e1⟩ := ht 0 top rfl
      obtain rfl : p1 = q1 := Option.some.inj e1
      have hz1 : p1.size ≤ 10 := Nat.le_trans (subs_size (List.mem_of_getElem? s1)) ok.z
      have tl' : ((top :: tops').map dN).length = rest.length + 1 := by rw [List.length_map, tl]
      refine wss_cons (ws_if (wt_cmp (w_len T (w_var 6 rfl ⟨_, .inr rfl, w_int (od_eq ⟨_, rfl, ite_dec (fun c => absurd c (by rw [tl']; omega)) fun _ => wss_nil fun _ => ?_⟩)⟩))))
      refine wss_cons (ws_set 4 sc15_5.nd (w_ix (w_at T 0 rfl T.sNumbers rfl (w_ix (w_var 6 rfl (w_int (xd_tup (i := 0) (d := dN top) rfl (xd_lst (d := tN ((List.range t.many).map (cnt t p1))) (by rw [List.getElem?_map, numsL_at s1]; rfl) fun _ => ?_))))))))
      rw [ordB] at r hi hb
      change i < ((firsts t.many E).flatMap (blk t p1 rest k E)).length at hi
      change ((firsts t.many E).flatMap (blk t p1 rest k E)).length ≤ 300 at hb
      change R (tN (((firsts t.many E).flatMap (blk t p1 rest k E)).getD i [])) at r
      have fl : ∀ e, e ∈ E → ∃ a l, e.ps = a :: l ∧ e.ps.getD 0 0 = a ∧ a < many ∧ l.length = rest.length := fun e he => by
        obtain ⟨a1, a2⟩ := ar e he
        cases z : e.ps with
        | nil => rw [z] at a1; simp at a1
        | cons a l =>
          rw [z, List.length_cons, List.length_cons] at a1
          exact ⟨a, l, rfl, rfl, a2.2.1 a (by rw [z]; exact List.mem_cons_self ..), by omega⟩
      refine wss_cons (ws_forN 5 sc15_5.nd (wi_list (w_sortedSet T rfl (w_lcN 11 [("parts", 11)] sc15_5.nd (blkOk_by (N := n15_5) (sc := defScope (cSt 5)) (by decide +kernel)) (idle1 rfl) (wi_list (w_var 7 rfl ⟨_, rfl, ?_⟩))))))
      refine lcq_map E (fun e => tN e.ps) (fun e => dN (e.ps.getD 0 0)) (slt (by omega)) (fun e he => ?_) ?_
      · obtain ⟨a, l, z1, z2, _, _⟩ := fl e he
        refine ⟨_, rfl, fun s H C cl fp => w_ix (w_var 11 rfl (w_int (xd_tup (i := 0) (d := dN (e.ps.getD 0 0)) ?_ rfl)))⟩
        rw [z1]
        rfl
      refine ⟨(E.map fun e => e.ps.getD 0 0).map Int.ofNat, ?_, ?_, fun ms m1 m2 => ?_⟩
      · rw [List.map_map, List.map_map]
        rfl
      · rw [List.length_map, List.length_map]
        omega
      have em : ms = (firsts t.many E).map Int.ofNat := by
        refine ints_sorted m1 (firsts_lt _ _) fun z => ?_
        rw [m2, List.mem_map, List.mem_map]
        constructor
        · rintro ⟨a, ha, rfl⟩
          obtain ⟨e, he, rfl⟩ := List.mem_map.mp ha
          obtain ⟨a, l, z1, z2, z3, _⟩ := fl e he
          exact ⟨_, firsts_mem.mpr ⟨by rw [z2, ok.w.m]; exact z3, e, he, rfl⟩, rfl⟩
        · rintro ⟨a, ha, rfl⟩
          obtain ⟨_, e, he, rfl⟩ := firsts_mem.mp ha
          exact ⟨_, List.mem_map_of_mem he, rfl⟩
      rw [em]
      refine ⟨_, rfl, ?_⟩
      rw [← dN_map]
      refine forQ_map (firsts t.many E) dN (fun pre S' => (pre.flatMap (blk t p1 rest k E)).length ≤ i ∧ ∃ c5 c8 c9 c10 : Sv K, S' = [.obj t.enc (ndsD (nodes p)) (numD' (numsL t p)), .dat (dN node), .dat (dN k), .dat (dN (i - (pre.flatMap (blk t p1 rest k E)).length)), .dat (tN ((List.range t.many).map (cnt t p1))), c5, .dat (tN (top :: tops')), .dat (.list (E.map fun e => tN e.ps)), c8, c9, c10, .no, .no]) ⟨Nat.zero_le _, .no, .no, .no, .no, rfl⟩ (fun pre a post S' ee hl hs => ?_) (fun S' hl hs => fun _ => ?_)
      · obtain ⟨hle, c5, c8, c9, c10, rfl⟩ := hs
        have ha : a ∈ firsts t.many E := by rw [ee]; simp
        have ham : a < t.many := (firsts_mem.mp ha).1
        have ha4 : a < many := by rw [← ok.w.m]; exact ham
        have total : (firsts t.many E).flatMap (blk t p1 rest k E) = pre.flatMap (blk t p1 rest k E) ++ blk t p1 rest k E a ++ post.flatMap (blk t p1 rest k E) := by
          rw [ee, List.flatMap_append, List.flatMap_cons, List.append_assoc]
        have bl := blk_len ok.w h1 rest k E a
        have hb' : (blk t p1 rest k E a).length ≤ 300 := by
          rw [total, List.length_append, List.length_append] at hb
          omega
        have dlt : ∀ j, j < (ordR t p1 a).length → ((ordR t p1 a).getD j []).length = p1.size := fun j hj => (ordR_ord ok.w p1 h1 a).len _ (List.mem_of_getElem? (getD_of hj []))
        refine ⟨_, rfl, wss_cons (ws_lcN 8 11 [("parts", 11)] sc15_5.nd (blkOk_by (N := n15_5) (sc := defScope (cSt 5)) (by decide +kernel)) (idle1 rfl) (wi_list (w_var 7 rfl ⟨_, rfl, ?_⟩)))⟩
        refine lcq_filter E (fun e => tN e.ps) (fun e => decide (e.ps.getD 0 0 = a) && decide (e.ps.length = 2)) (fun e => dN (e.ps.getD 1 0)) (slt (by omega)) (fun e he => ?_) (fun _ => ?_)
        · obtain ⟨a0, l, z1, z2, _, z4⟩ := fl e he
          refine ⟨_, rfl, fun s H C cl fp => wts_one (wt_pw (ww_and (wt_cmp (w_ix (w_var 11 rfl (w_int (xd_tup (i := 0) (d := dN (e.ps.getD 0 0)) (by rw [z1]; rfl) (w_var 5 rfl (od_eq ⟨_, rfl, ite_dec (fun c => ?_) fun c => ?_⟩))))))))), fun hte s H C cl fp => w_ix (w_var 11 rfl (w_int (xd_tup (i := 1) (d := dN (e.ps.getD 1 0)) ?_ rfl)))⟩
          · refine ww_and1 (wt_cmp (w_len T (w_var 11 rfl ⟨_, .inr rfl, w_int (od_eq ⟨_, rfl, ?_⟩)⟩)))
            have c' : e.ps.getD 0 0 = a := Int.ofNat.inj c
            rw [decide_eq_true c', Bool.true_and, List.length_map]
            exact decide_eq_decide.mpr (Int.ofNat_inj (n := 2))
          · have c' : ¬ e.ps.getD 0 0 = a := fun z => c (by rw [z])
            rw [decide_eq_false c', Bool.false_and]
          · rw [Bool.and_eq_true, decide_eq_true_eq, decide_eq_true_eq] at hte
            rw [List.getElem?_map, getD_of (by omega : 1 < e.ps.length) 0]
            rfl
        refine wss_frz 8 rfl ?_
        refine wss_mid (fun S2 => ∃ lt : List Nat, (rest ≠ [] → lt = later E a) ∧ S2 = [.obj t.enc (ndsD (nodes p)) (numD' (numsL t p)), .dat (dN node), .dat (dN k), .dat (dN (i - (pre.flatMap (blk t p1 rest k E)).length)), .dat (tN ((List.range t.many).map (cnt t p1))), .dat (dN a), .dat (tN (top :: tops')), .dat (.list (E.map fun e => tN e.ps)), .dat (.list (lt.map dN)), .dat (dN (restB t rest (later E a)).length), c10, .no, .no]) ?_ fun S2 hl2 hs2 => ?_
        · have elt : rest ≠ [] → (E.filter fun e => decide (e.ps.getD 0 0 = a) && decide (e.ps.length = 2)).map (fun e => e.ps.getD 1 0) = later E a := fun ne => by
            unfold later grp
            refine congrArg _ (List.filter_congr fun e he => ?_)
            obtain ⟨a0, l, z1, z2, _, z4⟩ := fl e he
            have : e.ps.length = 2 := by
              rw [z1, List.length_cons, z4]
              have : 0 < rest.length := List.length_pos_iff.mpr ne
              omega
            rw [decide_eq_true this, Bool.and_true]
          have fin : ∀ d : D, d = dN (restB t rest (later E a)).length → ∃ lt : List Nat, (rest ≠ [] → lt = later E a) ∧ ([.obj t.enc (ndsD (nodes p)) (numD' (numsL t p)), .dat (dN node), .dat (dN k), .dat (dN (i - (pre.flatMap (blk t p1 rest k E)).length)), .dat (tN ((List.range t.many).map (cnt t p1))), .dat (dN a), .dat (tN (top :: tops')), .dat (.list (E.map fun e => tN e.ps)), .dat (.list ((E.filter fun e => decide (e.ps.getD 0 0 = a) && decide (e.ps.length = 2)).map fun e => dN (e.ps.getD 1 0))), .dat d, c10, .no, .no] : List (Sv K)) = [.obj t.enc (ndsD (nodes p)) (numD' (numsL t p)), .dat (dN node), .dat (dN k), .dat (dN (i - (pre.flatMap (blk t p1 rest k E)).length)), .dat (tN ((List.range t.many).map (cnt t p1))), .dat (dN a), .dat (tN (top :: tops')), .dat (.list (E.map fun e => tN e.ps)), .dat (.list (lt.map dN)), .dat (dN (restB t rest (later E a)).length), c10, .no, .no] := fun d ed => by
            refine ⟨_, elt, ?_⟩
            rw [ed, List.map_map]
            rfl
          refine ws_set 9 sc15_5.nd (w_if (wt_cmp (w_len T (w_var 6 rfl ⟨_, .inr rfl, w_int (od_eq ⟨_, rfl, ite_dec (fun c => ?_) fun c => ?_⟩)⟩))))
          · have c' : rest.length = 1 := by
              have := Int.ofNat.inj c
              rw [List.length_map, tl] at this
              omega
            obtain ⟨p2, rfl⟩ : ∃ p2, rest = [p2] := by
              cases rest with
              | nil => simp at c'
              | cons x xs =>
                have : xs = [] := List.eq_nil_of_length_eq_zero (by simpa using c')
                exact ⟨x, by rw [this]⟩
            obtain ⟨top2, rfl⟩ : ∃ top2, tops' = [top2] := by
              cases tops' with
              | nil => simp at tl
              | cons x xs =>
                have : xs = [] := List.eq_nil_of_length_eq_zero (by simpa using tl)
                exact ⟨x, by rw [this]⟩
            obtain ⟨q2, s2, e2⟩ := ht 1 top2 rfl
            obtain rfl : p2 = q2 := Option.some.inj e2
            rw [Pr.AllSs] at hpa
            rw [Pr.fulls] at hpf
            have h2' : PrOk t.signs p2 := ⟨hpa.2.2.1, hpf.2.1⟩
            refine w_sumN T (w_lcN 12 [("part", 12)] sc15_5.nd (blkOk_by (N := n15_5) (sc := defScope (cSt 5)) (by decide +kernel)) (idle1 rfl) (wi_list (w_var 8 rfl ⟨_, rfl, ?_⟩)))
            have elm : (E.filter fun e => decide (e.ps.getD 0 0 = a) && decide (e.ps.length = 2)).map (fun e => dN (e.ps.getD 1 0)) = (later E a).map dN := by
              rw [← elt (List.cons_ne_nil _ _), List.map_map]
              rfl
            rw [elm]
            have ll : (later E a).length ≤ 24 := by
              unfold later grp
              rw [List.length_map]
              exact Nat.le_trans (List.length_filter_le _ _) lE
            refine lcq_map (later E a) dN (fun b => dN (cnt t p2 b)) (slt (by omega)) (fun b hb2 => ?_) ⟨(later E a).map (cnt t p2), .inl (by rw [List.map_map]; rfl), ?_⟩
            · have hbm : b < t.many := by
                unfold later grp at hb2
                obtain ⟨e, he, rfl⟩ := List.mem_map.mp hb2
                have he' := (List.mem_filter.mp he).1
                obtain ⟨y1, y2⟩ := ar e he'
                rw [ok.w.m]
                exact y2.2.1 _ (List.mem_of_getElem? (getD_of (by rw [y1]; exact (by decide : 1 < 2)) 0))
              exact ⟨_, rfl, fun s H C cl fp => w_ix (w_ix (w_at T 0 rfl T.sNumbers rfl (w_ix (w_var 6 rfl (w_int (xd_tup (i := 1) (d := dN top2) rfl (xd_lst (d := tN ((List.range t.many).map (cnt t p2))) (by rw [List.getElem?_map, numsL_at s2]; rfl) (w_var 12 rfl (xd_tup (d := dN (cnt t p2 b)) (by rw [List.getElem?_map, List.getElem?_map, List.getElem?_range hbm]; rfl) rfl)))))))))⟩
            · have := fin (dN ((later E a).map (cnt t p2)).sum) (by rw [restB, ← restR_len ok.w h2']; rfl)
              rw [elm] at this
              exact this
          · have c' : rest = [] := by
              cases rest with
              | nil => rfl
              | cons x xs =>
                refine absurd ?_ c
                show ((((top :: tops').map dN).length : Nat) : Int) = ((2 : Nat) : Int)
                rw [tl']
                have : xs = [] := List.eq_nil_of_length_eq_zero (by rw [List.length_cons] at h2; omega)
                rw [this]
                rfl
            refine w_int (fin (dN 1) ?_)
            rw [c', restB]
            rfl
        · obtain ⟨lt, hlt, rfl⟩ := hs2
          have c0 : cnt t p1 a ≤ 63403380965376 := cnt_big ok.w hz1 a
          have numa : ((((List.range t.many).map (cnt t p1)).map dN))[a]? = some (dN (cnt t p1 a)) := by rw [List.getElem?_map, List.getElem?_map, List.getElem?_range ham]; rfl
          have big : ((cnt t p1 a : Nat) : Int) < 2 ^ 64 := Int.lt_of_le_of_lt (Int.ofNat_le.mpr c0) (by decide)
          refine wss_cons (ws_if (wt_cmp (w_var 3 rfl (w_op (w_ix (w_var 4 rfl (w_var 5 rfl (xd_tup (d := dN (cnt t p1 a)) numa (w_var 9 rfl (od_mul (.inl ⟨by omega, big⟩) (od_lt ⟨_, rfl, ite_dec (fun c => ?_) fun c => ?_⟩)))))))))))
          · have c' : i - (pre.flatMap (blk t p1 rest k E)).length < (blk t p1 rest k E a).length := by
              rw [bl]
              exact Int.ofNat_lt.mp (by rw [Int.natCast_mul]; exact c)
            have c2 : i - (pre.flatMap (blk t p1 rest k E)).length < cnt t p1 a * (restB t rest (later E a)).length := by rw [← bl]; exact c'
            have sd0 : 0 < (restB t rest (later E a)).length := by
              apply Classical.byContradiction
              intro z
              have : (restB t rest (later E a)).length = 0 := by omega
              rw [this] at c2
              omega
            have ca : cnt t p1 a ≤ 300 := by
              rw [bl] at hb'
              exact Nat.le_trans (Nat.le_mul_of_pos_right _ sd0) hb'
            have sd3 : (restB t rest (later E a)).length ≤ 300 := by
              rw [bl] at hb'
              refine Nat.le_trans (Nat.le_mul_of_pos_left _ ?_) hb'
              apply Classical.byContradiction
              intro z
              have : cnt t p1 a = 0 := by omega
              rw [this] at c2
              omega
            rw [total, mid_getD _ _ _ _ hle c'] at r
            unfold blk at r
            rw [prod_getD (fun r r' => k :: (r ++ r')) (restB t rest (later E a)) [] [] [] _ _ (by rw [ordR_len ok.w h1]; exact c2)] at r
            have j1 : (i - (pre.flatMap (blk t p1 rest k E)).length) / (restB t rest (later E a)).length < cnt t p1 a := Nat.div_lt_of_lt_mul (by rw [Nat.mul_comm]; exact c2)
            have rl1 := dlt _ (by rw [ordR_len ok.w h1]; exact j1)
            refine wss_cons (ws_set 10 sc15_5.nd (w_tup (wa_cons (w_var 2 rfl (wa_star (w_meth T 0 (ihI m rfl) hr (by omega) rfl (wa_cons (w_ix (w_var 6 rfl (w_int (xd_tup (i := 0) (d := dN top) rfl (wa_cons (w_var 5 rfl (wa_cons (w_op (w_var 3 rfl (w_var 9 rfl (od_div ⟨by omega, by omega⟩ (wa_nil ⟨many, t, p, p1, top, a, _, rfl, rfl, rfl, by rw [ediv_N], ⟨ok.w, ok.pr, ok.z, s1⟩, d1, ha4, j1, ca, _, .inr rfl, wa_nil ⟨szl ?_, fun _ => ?_⟩⟩)))))))))))))))))))
            · rw [List.length_cons, List.length_append, List.length_map, rl1, List.length_nil]
              omega
            have j2 : (i - (pre.flatMap (blk t p1 rest k E)).length) % (restB t rest (later E a)).length < (restB t rest (later E a)).length := Nat.mod_lt _ sd0
            refine wss_one (ws_ret (w_if (wt_cmp (w_len T (w_var 6 rfl ⟨_, .inr rfl, w_int (od_eq ⟨_, rfl, ite_dec (fun cx => ?_) fun cx => ?_⟩)⟩)))))
            · have e0 : rest = [] := by
                cases rest with
                | nil => rfl
                | cons x xs =>
                  have : ((top :: tops').map dN).length = 1 := Int.ofNat.inj cx
                  rw [tl', List.length_cons] at this
                  omega
              refine w_var 10 rfl ?_
              subst e0
              simp only [restB] at r ⊢
              rw [List.length_singleton] at r ⊢
              rw [Nat.mod_one] at r
              have e2 : (([[]] : List (List Nat)).getD 0 []) = [] := rfl
              rw [e2, List.append_nil] at r
              show R (.tuple (dN k :: (((ordR t p1 a).getD ((i - (pre.flatMap (blk t p1 [] k E)).length) / 1) []).map dN ++ [])))
              rw [List.append_nil]
              exact r
            · obtain ⟨p2, rfl⟩ : ∃ p2, rest = [p2] := by
                cases rest with
                | nil =>
                  refine absurd ?_ cx
                  show ((((top :: tops').map dN).length : Nat) : Int) = ((1 : Nat) : Int)
                  rw [tl']
                  rfl
                | cons x xs =>
                  have : xs = [] := List.eq_nil_of_length_eq_zero (by rw [List.length_cons] at h2; omega)
                  exact ⟨x, by rw [this]⟩
              obtain ⟨top2, rfl⟩ : ∃ top2, tops' = [top2] := by
                cases tops' with
                | nil => simp at tl
                | cons x xs =>
                  have : xs = [] := List.eq_nil_of_length_eq_zero (by simpa using tl)
                  exact ⟨x, by rw [this]⟩
              obtain ⟨q2, s2, e2⟩ := ht 1 top2 rfl
              obtain rfl : p2 = q2 := Option.some.inj e2
              rw [Pr.AllSs] at hpa
              rw [Pr.fulls] at hpf
              have h2' : PrOk t.signs p2 := ⟨hpa.2.2.1, hpf.2.1⟩
              have el := hlt (List.cons_ne_nil _ _)
              subst el
              have ll : (later E a).length ≤ 24 := by
                unfold later grp
                rw [List.length_map]
                exact Nat.le_trans (List.length_filter_le _ _) lE
              have lm : ∀ b, b ∈ later E a → b < many := fun b hb2 => by
                unfold later grp at hb2
                obtain ⟨e, he, rfl⟩ := List.mem_map.mp hb2
                have he' := (List.mem_filter.mp he).1
                obtain ⟨y1, y2⟩ := ar e he'
                exact y2.2.1 _ (List.mem_of_getElem? (getD_of (by rw [y1]; exact (by decide : 1 < 2)) 0))
              have er : restB t [p2] (later E a) = restR t p2 (later E a) := by rw [restB]; rfl
              rw [er] at r j2 sd3 sd0
              have d2 : p2.depth ≤ m := Pr.depth_part hd (List.mem_cons_of_mem _ (List.mem_cons_self ..))
              have hz2 : p2.size ≤ 10 := Nat.le_trans (subs_size (List.mem_of_getElem? s2)) ok.z
              have rl2 : ((restR t p2 (later E a)).getD ((i - (pre.flatMap (blk t p1 [p2] k E)).length) % (restR t p2 (later E a)).length) []).length = p2.size := by
                have hm := List.mem_of_getElem? (getD_of j2 [])
                unfold restR at hm
                obtain ⟨b, _, hb2⟩ := List.mem_flatMap.mp hm
                exact (ordR_ord ok.w p2 h2' b).len _ hb2
              refine w_tup (wa_star (w_var 10 rfl ⟨_, .inr rfl, wa_star (w_meth T 0 (ihR m rfl) hr (by omega) rfl (wa_cons (w_ix (w_var 6 rfl (w_int (xd_tup (i := 1) (d := dN top2) rfl (wa_cons (w_var 8 rfl (wa_cons (w_op (w_var 3 rfl (w_var 9 rfl (od_mod (by rw [er]; omega) (wa_nil ⟨many, t, p, p2, top2, later E a, _, rfl, rfl, rfl, by rw [emod_N, er], ⟨ok.w, ok.pr, ok.z, s2⟩, d2, lm, by omega, j2, sd3, _, .inr rfl, wa_nil ⟨szl ?_, ?_⟩⟩))))))))))))))⟩))
              · rw [List.length_append, List.length_append, List.length_map, rl2, List.length_nil, List.length_cons, List.length_append, List.length_map, rl1]
                simp only [List.length_nil]
                omega
              · have e3 : ∀ (x y : List Nat), (dN k :: (x.map dN ++ [])) ++ (y.map dN ++ []) = (k :: (x ++ y)).map dN := fun x y => by
                  rw [List.append_nil, List.append_nil, List.map_cons, List.map_append]
                  rfl
                refine Eq.mp (congrArg R ?_) r
                rw [er]
                exact congrArg PyData.tuple (e3 _ _).symm
          · have c' : ¬ i - (pre.flatMap (blk t p1 rest k E)).length < (blk t p1 rest k E a).length := fun z => c (by rw [bl] at z; rw [← Int.natCast_mul]; exact Int.ofNat_lt.mpr z)
            have e4 : ((pre ++ [a]).flatMap (blk t p1 rest k E)).length = (pre.flatMap (blk t p1 rest k E)).length + (blk t p1 rest k E a).length := by
              rw [List.flatMap_append, List.length_append, List.flatMap_cons, List.flatMap_nil, List.append_nil]
            refine wss_nil fun _ => wss_one (ws_aug 3 ip_sub sc15_5.nd rfl (w_op (w_ix (w_var 4 rfl (w_var 5 rfl (xd_tup (d := dN (cnt t p1 a)) numa (w_var 9 rfl (od_mul (.inl ⟨by omega, big⟩) ⟨_, rfl, by rw [e4]; omega, .dat (dN a), .dat (.list (lt.map dN)), .dat (dN (restB t rest (later E a)).length), c10, ?_⟩))))))))
            have e1 : (((i - (pre.flatMap (blk t p1 rest k E)).length : Nat) : Int) - (((cnt t p1 a : Nat) : Int) * (((restB t rest (later E a)).length : Nat) : Int))) = ((i - ((pre ++ [a]).flatMap (blk t p1 rest k E)).length : Nat) : Int) := by
              rw [e4, ← Int.natCast_mul, ← bl]
              omega
            rw [e1]
            rfl
      · obtain ⟨hle, _⟩ := hs
        omega
end
end K3
namespace K3
open PySem PySem.Spec PyProof.Rows L2
section
variable {P : Program} {w : World} {K : PySem.W.Frag} {mg : Str → Option Value} {base : Heap}
theorem ok_index (T : Tx K mg) : ∀ n : Nat, MetN P w K mg base (2 * n + 3) "by_index" ["self", "node", "kind", "index"] (spO K (spIdx n)) := by
  intro n
  induction n with
  | zero => exact go_index T 0 (fun m h => by omega) fun m h => by omega
  | succ n ih =>
    refine go_index T (n + 1) (fun m h => ?_) fun m h => ?_
    · obtain rfl : n = m := by omega
      exact ih
    · obtain rfl : n = m := by omega
      exact go_rest T n ih
theorem ok_rest (T : Tx K mg) (n : Nat) : MetN P w K mg base (2 * n + 4) "by_rest" ["self", "node", "kinds", "index"] (spO K (spRest n)) := go_rest T n (ok_index T n)
end
end K3
end

section
set_option Elab.async false
set_option linter.all false
set_option autoImplicit false
set_option maxRecDepth 100000
set_option maxHeartbeats 1000000
/-! An instance of Counted that is being made. -/
namespace K3
open PySem PySem.Spec PyProof.Rows L2
section
variable {K : PySem.W.Frag}
def fldP (K : PySem.W.Frag) (F : Hp) (vs : List (Option V)) (i : Nat) (d : Option D) : Prop := ∀ e, d = some e → ∃ v, vs[i]? = some (some v) ∧ Is K F v e
structure OobP (K : PySem.W.Frag) (a dx : Addr) (t n : Option D) (q : Option (Addr × List D)) (F G : Hp) (vs : List (Option V)) : Prop where
  ne : dx ≠ a
  len : vs.length ≤ 3
  dict : ∃ u, G dx = some u
  slt : SlX.Slt G a (cA K) dx vs
  tb : fldP K F vs 2 t
  nd : fldP K F vs 0 n
  nm : ∀ l xs, q = some (l, xs) → ∃ ws, vs[1]? = some (some (.ref l)) ∧ l ≠ a ∧ l ≠ dx ∧ G l = some (.lst ws) ∧ IsA K F ws xs
theorem slt_mono {G G' : Hp} {a C dx : Addr} {vs : List (Option V)} (g : Ex G G') (h : SlX.Slt G a C dx vs) : SlX.Slt G' a C dx vs := by
  rcases h with ⟨h1, h2⟩ | ⟨h1, h2⟩
  · exact .inl ⟨g _ _ h1, h2⟩
  · exact .inr ⟨g _ _ h1, g _ _ h2⟩
theorem OobP.mono {a dx : Addr} {t n : Option D} {q : Option (Addr × List D)} {F F' G G' : Hp} {vs : List (Option V)} (e : Ex F F') (g : Ex G G') (h : OobP K a dx t n q F G vs) : OobP K a dx t n q F' G' vs where
  ne := h.ne
  len := h.len
  dict := by
    obtain ⟨u, z⟩ := h.dict
    exact ⟨u, g _ _ z⟩
  slt := slt_mono g h.slt
  tb := fun d ed => by
    obtain ⟨v, h1, h2⟩ := h.tb d ed
    exact ⟨v, h1, h2.mono e⟩
  nd := fun d ed => by
    obtain ⟨v, h1, h2⟩ := h.nd d ed
    exact ⟨v, h1, h2.mono e⟩
  nm := fun l xs ed => by
    obtain ⟨ws, h1, h2, h3, h4, h5⟩ := h.nm l xs ed
    exact ⟨ws, h1, h2, h3, g _ _ h4, h5.mono e⟩
theorem putS_le {i : Nat} {v : V} {vs : List (Option V)} (h : vs.length ≤ 3) (hi : i < 3) : (SlX.putS i v vs).length ≤ 3 := by
  unfold SlX.putS
  rw [List.length_set, List.length_append, List.length_replicate]
  omega
def Sv.oob (a dx : Addr) (t n : Option D) (q : Option (Addr × List D)) : Sv K := ⟨fun F G v => v = some (.ref a) ∧ ∃ vs, OobP K a dx t n q F G vs, fun e g ⟨h1, vs, h2⟩ => ⟨h1, vs, h2.mono e g⟩⟩
theorem Std.oob {ow : Addr → Nat} {H : Hp} {σ : L2.St} {S : Sto K} (st : Std K ow H σ S) {i : Nat} {a dx : Addr} {t n : Option D} {q : Option (Addr × List D)} (h : S[i]? = some (.oob a dx t n q)) :
    σ[i]? = some (some (.ref a)) ∧ ow a = i + 1 ∧ ow dx = i + 1 ∧ ∃ vs, OobP K a dx t n q (fz ow H) (pt ow (i + 1) H) vs := by
  obtain ⟨e, vs, z⟩ := st.sl i _ h
  have ha : ow a = i + 1 := by
    rcases z.slt with ⟨h1, _⟩ | ⟨h1, _⟩ <;> exact (pt_some h1).2
  obtain ⟨u, hu⟩ := z.dict
  refine ⟨?_, ha, (pt_some hu).2, vs, z⟩
  cases r : σ[i]? with
  | none =>
    rw [r] at e
    cases e
  | some z =>
    rw [r] at e
    have e' : z = some (.ref a) := e
    rw [e']
theorem slt_ne {G : Hp} {a C dx : Addr} {vs : List (Option V)} (h : SlX.Slt G a C dx vs) : G a ≠ none := by
  rcases h with ⟨h1, _⟩ | ⟨h1, _⟩ <;> rw [h1] <;> exact fun z => nomatch z
/-- a field is stored -/
theorem Std.fset {ow : Addr → Nat} {H : Hp} {σ : L2.St} {S : Sto K} (st : Std K ow H σ S) {i : Nat} {a dx : Addr} {t n : Option D} {q : Option (Addr × List D)} (h : S[i]? = some (.oob a dx t n q)) {ws : List (Option V)} {t' n' : Option D} {q' : Option (Addr × List D)}
    (ok : ∀ G : Hp, (∀ b o, b ≠ a → b ≠ dx → pt ow (i + 1) H b = some o → G b = some o) → SlX.Slt G a (cA K) dx ws → (∃ u, G dx = some u) → OobP K a dx t' n' q' (fz ow H) G ws) :
    Std K ow (SlX.slH H a (cA K) dx ws) σ (S.set i (.oob a dx t' n' q')) ∧ Stp S.length ow H ow (SlX.slH H a (cA K) dx ws) := by
  obtain ⟨e, oa, od, vs0, z⟩ := st.oob h
  have hi : i < S.length := (List.getElem?_eq_some_iff.mp h).1
  obtain ⟨u, hu⟩ := z.dict
  obtain ⟨s1, p1⟩ := st.upd (s := .no) (o := .xd []) od hi (some_ne (pt_some hu).1) trivial
  have h1 : (S.set i Sv.no)[i]? = some (Sv.no : Sv K) := List.getElem?_set_self hi
  have na : L2.upd H dx (.xd []) a ≠ none := by
    rw [upd_ne (Ne.symm z.ne)]
    intro c
    refine slt_ne z.slt ?_
    unfold pt
    rw [c]
    split <;> rfl
  have hs : fz ow (L2.upd H dx (.xd [])) = fz ow H := by
    funext b
    unfold fz pt
    by_cases c : b = dx
    · rw [c, od]
      rfl
    · rw [upd_ne c]
  have ok' : (Sv.oob a dx t' n' q' : Sv K).ok (fz ow (L2.upd H dx (.xd []))) (pt ow (i + 1) (L2.upd (L2.upd H dx (.xd [])) a (SlX.SlO a (cA K) dx ws))) (σ[i]?.join) := by
    rw [hs, e]
    refine ⟨rfl, ws, ok _ (fun b o b1 b2 hb => ?_) ?_ ?_⟩
    · obtain ⟨g1, g2⟩ := pt_some hb
      refine pt_of g2 ?_
      rw [upd_ne b1, upd_ne b2]
      exact g1
    · refine .inr ⟨pt_of oa upd_same, pt_of od ?_⟩
      rw [upd_ne z.ne]
      exact upd_same
    · refine ⟨.xd [], pt_of od ?_⟩
      rw [upd_ne z.ne]
      exact upd_same
  obtain ⟨s2, p2⟩ := s1.upd (i := i) (l := a) (o := SlX.SlO a (cA K) dx ws) oa (by rw [List.length_set]; exact hi) na ok'
  rw [List.set_set] at s2
  rw [List.length_set] at p2
  exact ⟨s2, p1.trans p2⟩
end
/-- a target self.f -/
def gSl (K : PySem.W.Frag) (to : TE) (f : Str) : TG := fun v σ H Q => to σ H fun x H1 => ∃ a C dx p vs i, x = .ref a ∧ SlX.Slt H1 a C dx vs ∧ SlX.SCls K C ∧ SlX.Slot1 K C f p i ∧ Q σ (SlX.slH H1 a C dx (SlX.putS i v vs))
section
variable {X : Cx} {S : Sto X.K} {Q : D → Prop} {D0 : De X.K} {x f g : Str} {e e2 : Expr} {px pos apos epos spos p1 p2 : Pos} {kk : Nat}
theorem pg_slot {o : Expr} {to : TE} (ho : PE X o to) : PG X (.Attribute o f pos) (gSl X.K to f) := by
  refine ⟨fun pins s σ H v u Q I r h => ?_⟩
  show wpAny _ _ (do
    let ov ← holding [u] (eval o X.env)
    standAt pos.atName
    holding [u, ov] (setAttr ov f u)
    release [u, ov] []) _ _ s
  refine wpAny_bind (wpAny_holding (thn (ho.run pins s σ H _ I h) fun ov s1 ⟨x, H1, I1, r1, a, C, dx, p, vs, i, ex, hs, c, t, q⟩ => ?_))
  subst ex
  obtain rfl : ov = Value.ref a := r1
  refine wpAny_bind (wpAny_standAt (wpAny_bind (wpAny_holding (SlX.setslot_ok I1 hs c t r fun s3 I3 => ?_))))
  exact wpAny_release ⟨σ, _, I3, q⟩
/-- self.f, a field that holds data -/
theorem w_fld {p : Addr} {j : Nat} {a dx : Addr} {t n : Option D} {q : Option (Addr × List D)} {d : D} (T : Tx X.K X.mg) (i : Nat) (hS : S[i]? = some (.oob a dx t n q)) (sl : SlX.Slot1 X.K (cA X.K) f p j) (hj : (j = 2 ∧ t = some d) ∨ (j = 0 ∧ n = some d)) (k : Q d) (hN : X.N[i]? = some x := by rfl) (hv : Vis X.env.scope x := by first | exact Or.inl rfl | exact Or.inr (Or.inl rfl) | exact Or.inr (Or.inr rfl))
    (hd : (x == ("__debug__" : Str)) = false := by decide) (hcd : (x == ("__classdict__" : Str)) = false := by decide) (hb : attributeBase (.Name x px) f X.env (eval (.Name x px) X.env) = eval (.Name x px) X.env := by rfl) : W X (.Attribute (.Name x px) f pos) S Q := fun ow H σ Q' st kk => by
  obtain ⟨es, oa, od, vs, z⟩ := st.oob hS
  have ev : ∃ v, vs[j]? = some (some v) ∧ Is X.K (fz ow H) v d := by
    rcases hj with ⟨rfl, e⟩ | ⟨rfl, e⟩
    · exact z.tb d e
    · exact z.nd d e
  obtain ⟨v, ev, iv⟩ := ev
  refine PE.we (SlX.pe_sl (pe_var hN hv hd hcd) hb) ⟨_, es, a, cA X.K, dx, p, _, j, v, rfl, slt_mono pt_le z.slt, T.cls, sl, ev, ?_⟩
  exact kk d v ow H k st (Stp.refl _ _ _) iv
/-- self.its_table, self.its_nodes = e -/
theorem ws_two {pf pg : Addr} {a dx : Addr} {tt : Pos} (T : Tx X.K X.mg) (i : Nat) (hS : S[i]? = some (.oob a dx none none none)) (sf : SlX.Slot1 X.K (cA X.K) f pf 2) (sg : SlX.Slot1 X.K (cA X.K) g pg 0)
    (h : W X e S fun d => ∃ t n, d = .tuple [t, n] ∧ D0.nx (S.set i (.oob a dx (some t) (some n) none))) (hc : X.calm = true := by rfl) (hN : X.N[i]? = some x := by rfl) (hv : Vis X.env.scope x := by first | exact Or.inl rfl | exact Or.inr (Or.inl rfl) | exact Or.inr (Or.inr rfl))
    (hd : (x == ("__debug__" : Str)) = false := by decide) (hcd : (x == ("__classdict__" : Str)) = false := by decide)
    (hn : (assignEach [.Attribute (.Name x px) f p1, .Attribute (.Name x epos) g p2] X.env).length = 2 := by rfl) (hst : (assignEach [.Attribute (.Name x px) f p1, .Attribute (.Name x epos) g p2] X.env).findIdx? (·.1) = none := by rfl)
    (ha1 : (assignEach [.Attribute (.Name x px) f p1, .Attribute (.Name x epos) g p2] X.env).map (·.2) = assign (.Attribute (.Name x px) f p1) X.env :: (assignEach [.Attribute (.Name x epos) g p2] X.env).map (·.2) := by rfl)
    (ha2 : (assignEach [.Attribute (.Name x epos) g p2] X.env).map (·.2) = assign (.Attribute (.Name x epos) g p2) X.env :: (assignEach [] X.env).map (·.2) := by rfl)
    (hs : swapsWithSole [.Tuple [.Attribute (.Name x px) f p1, .Attribute (.Name x epos) g p2] kk tt] e pos.line X.env = pure false := by rfl) (hw : swappedStores [.Tuple [.Attribute (.Name x px) f p1, .Attribute (.Name x epos) g p2] kk tt] e X.env = pure none := by rfl)
    (h1 : (assignEach [.Tuple [.Attribute (.Name x px) f p1, .Attribute (.Name x epos) g p2] kk tt] X.env).map (·.2) = [assign (.Tuple [.Attribute (.Name x px) f p1, .Attribute (.Name x epos) g p2] kk tt) X.env] := by rfl) :
    WS X (.Assign [.Tuple [.Attribute (.Name x px) f p1, .Attribute (.Name x epos) g p2] kk tt] e pos) S D0 := fun ow H σ E st m => by
  refine PS.we (ps_asg pe_W (pg_tup hc (pgs_cons (pg_slot (pe_var hN hv hd hcd)) (pgs_cons (pg_slot (pe_var hN hv hd hcd)) pgs_nil ha2) ha1) hn hst) hs hw h1) ?_
  refine h ow H σ _ st fun d v ow1 H1 q st1 e1 i1 => ?_
  obtain ⟨t, n, rfl, q⟩ := q
  cases i1 with
  | @tup b us _ pt1 a1 =>
    cases a1 with
    | @cons v1 _ _ _ k1 a2 =>
      cases a2 with
      | @cons v2 _ _ _ k2 a3 =>
        cases a3
        obtain ⟨es, oa, od, vs, z⟩ := st1.oob hS
        refine ⟨b, _, rfl, (pt1.mono pt_le).sq, rfl, v1, _, rfl, _, es, a, cA X.K, dx, pf, vs, 2, rfl, slt_mono pt_le z.slt, T.cls, sf, ?_⟩
        obtain ⟨s2, y2⟩ := st1.fset (ws := SlX.putS 2 v1 vs) (t' := some t) (n' := none) (q' := none) hS fun G _ sl du => ⟨z.ne, putS_le z.len (by decide), du, sl, fun d ed => ⟨v1, SlX.putS_get .., (by cases ed; exact k1)⟩, fun d ed => (by cases ed), fun l d ed => (by cases ed)⟩
        have hi : i < S.length := (List.getElem?_eq_some_iff.mp hS).1
        have hS2 : (S.set i (.oob a dx (some t) none none))[i]? = some (.oob a dx (some t) none none) := List.getElem?_set_self hi
        obtain ⟨es2, oa2, od2, vs2, z2⟩ := s2.oob hS2
        have fze : Ex (fz ow1 H1) (fz ow1 (SlX.slH H1 a (cA X.K) dx (SlX.putS 2 v1 vs))) := y2.fz
        have sl2 : SlX.Slt (SlX.slH H1 a (cA X.K) dx (SlX.putS 2 v1 vs)) a (cA X.K) dx (SlX.putS 2 v1 vs) := SlX.slH_slt z.ne
        refine ⟨v2, [], rfl, _, es2, a, cA X.K, dx, pg, SlX.putS 2 v1 vs, 0, rfl, sl2, T.cls, sg, rfl, ?_⟩
        obtain ⟨s3, y3⟩ := s2.fset (ws := SlX.putS 0 v2 (SlX.putS 2 v1 vs)) (t' := some t) (n' := some n) (q' := none) hS2 fun G _ sl du => ⟨z.ne, putS_le (putS_le z.len (by decide)) (by decide), du, sl, fun d ed => ⟨v1, (SlX.putS_ne (by decide)).mpr (SlX.putS_get ..), (by cases ed; exact k1.mono fze)⟩, fun d ed => ⟨v2, SlX.putS_get .., (by cases ed; exact k2.mono fze)⟩, fun l d ed => (by cases ed)⟩
        rw [List.set_set] at s3
        rw [List.length_set] at y3
        exact m.nx _ ow1 _ _ q (by rw [List.length_set]) s3 (e1.trans (y2.trans y3))
end
end K3
end

section
set_option Elab.async false
set_option linter.all false
set_option autoImplicit false
set_option maxRecDepth 100000
set_option maxHeartbeats 1000000
/-! An instance of Counted that is being made: its list of numbers. -/
namespace K3
open PySem PySem.Spec PyProof.Rows L2
section
variable {K : PySem.W.Frag}
/-- a new object is given to a slot -/
theorem Std.give {ow : Addr → Nat} {H : Hp} {σ : L2.St} {S : Sto K} (st : Std K ow H σ S) {l : Addr} {i : Nat} (hl : ow l = S.length + 1) (hi : i < S.length) :
    Std K (fun x => if x = l then i + 1 else ow x) H σ S ∧ ∀ (ow0 : Addr → Nat) (H0 : Hp), Stp S.length ow0 H0 ow H → H0 l = none → Stp S.length ow0 H0 (fun x => if x = l then i + 1 else ow x) H := by
  have pe : ∀ m, m ≠ i + 1 → m ≠ S.length + 1 → pt (fun x => if x = l then i + 1 else ow x) m H = pt ow m H := fun m h1 h2 => by
    funext b
    unfold pt
    show (if (if b = l then i + 1 else ow b) = m then H b else none) = if ow b = m then H b else none
    by_cases c : b = l
    · rw [if_pos c, c, hl, if_neg (Ne.symm h1), if_neg (Ne.symm h2)]
    · rw [if_neg c]
  have pm : Ex (pt ow (i + 1) H) (pt (fun x => if x = l then i + 1 else ow x) (i + 1) H) := fun b o hb => by
    obtain ⟨g1, g2⟩ := pt_some hb
    refine pt_of ?_ g1
    show (if b = l then i + 1 else ow b) = i + 1
    split
    · rfl
    · exact g2
  have fe : fz (fun x => if x = l then i + 1 else ow x) H = fz ow H := pe 0 (by omega) (by omega)
  refine ⟨⟨st.len, fun j s h => ?_⟩, fun ow0 H0 sp h0 => ⟨by rw [fe]; exact sp.fz, fun m hm b o hb => ?_, sp.dm⟩⟩
  · have hj : j < S.length := (List.getElem?_eq_some_iff.mp h).1
    rw [fe]
    by_cases c : j = i
    · subst c
      exact s.mono (Evl.Ex.refl _) pm (st.sl j s h)
    · rw [pe (j + 1) (by omega) (by omega)]
      exact st.sl j s h
  · obtain ⟨g1, g2⟩ := pt_some (sp.fr m hm b o hb)
    have nb : b ≠ l := fun c => by
      rw [c] at hb
      obtain ⟨g3, _⟩ := pt_some hb
      rw [h0] at g3
      cases g3
    refine pt_of ?_ g1
    show (if b = l then i + 1 else ow b) = m
    rw [if_neg nb]
    exact g2
end
section
variable {X : Cx} {S : Sto X.K} {Q : D → Prop} {D0 : De X.K} {x f m : Str} {e e2 : Expr} {es : List Expr} {px pos apos epos spos p1 p2 : Pos} {kk : Nat}
/-- self.its_numbers = e, e a new list -/
theorem ws_numF {pf : Addr} {a dx : Addr} {t n : Option D} (T : Tx X.K X.mg) (i : Nat) (hS : S[i]? = some (.oob a dx t n none)) (sf : SlX.Slot1 X.K (cA X.K) f pf 1)
    (h : WV X e S fun s => ∃ ds, s = .own ds ∧ ∀ l, D0.nx (S.set i (.oob a dx t n (some (l, ds))))) (hN : X.N[i]? = some x := by rfl) (hv : Vis X.env.scope x := by first | exact Or.inl rfl | exact Or.inr (Or.inl rfl) | exact Or.inr (Or.inr rfl))
    (hd : (x == ("__debug__" : Str)) = false := by decide) (hcd : (x == ("__classdict__" : Str)) = false := by decide) (hs : swapsWith e (some (.Attribute (.Name x px) f p1)) pos.line X.env = pure false := by rfl) : WS X (.Assign [.Attribute (.Name x px) f p1] e pos) S D0 := fun ow H σ E st mm => by
  refine PS.we (SlX.ps_sl (pe_var hN hv hd hcd) pe_W hs) ?_
  obtain ⟨_, _, _, vs0, z0⟩ := st.oob hS
  have hi : i < S.length := (List.getElem?_eq_some_iff.mp hS).1
  refine h ow H σ _ st fun s v ow1 H1 q st1 e1 ok => ?_
  obtain ⟨ds, rfl, q⟩ := q
  obtain ⟨l, ws, ev, hl, al⟩ := ok
  obtain rfl := Option.some.inj ev
  obtain ⟨l1, l2, l3⟩ := zn_some hl
  obtain ⟨st2, sp2⟩ := st1.give l2 hi
  have e2 := sp2 ow H e1 l1
  obtain ⟨es, oa, od, vs, z⟩ := st2.oob hS
  have la : l ≠ a := fun c => by
    refine slt_ne z0.slt ?_
    unfold pt
    rw [← c, l1]
    split <;> rfl
  have ld : l ≠ dx := fun c => by
    obtain ⟨u, hu⟩ := z0.dict
    have := (pt_some hu).1
    rw [← c, l1] at this
    cases this
  refine ⟨_, es, a, cA X.K, dx, pf, vs, 1, rfl, slt_mono pt_le z.slt, T.cls, sf, ?_⟩
  have fe : fz (fun x => if x = l then i + 1 else ow1 x) H1 = fz ow1 H1 := by
    funext b
    unfold fz pt
    show (if (if b = l then i + 1 else ow1 b) = 0 then H1 b else none) = if ow1 b = 0 then H1 b else none
    by_cases c : b = l
    · rw [if_pos c, c, l2]
      rfl
    · rw [if_neg c]
  obtain ⟨s3, y3⟩ := st2.fset (ws := SlX.putS 1 (.ref l) vs) (t' := t) (n' := n) (q' := some (l, ds)) hS (by
    intro G kp sl du
    refine ⟨z.ne, putS_le z.len (by decide), du, sl, fun d ed => ?_, fun d ed => ?_, fun l' d ed => ?_⟩
    · obtain ⟨v, h1, h2⟩ := z.tb d ed
      exact ⟨v, (SlX.putS_ne (by decide)).mpr h1, h2⟩
    · obtain ⟨v, h1, h2⟩ := z.nd d ed
      exact ⟨v, (SlX.putS_ne (by decide)).mpr h1, h2⟩
    · cases ed
      refine ⟨ws, SlX.putS_get .., la, ld, kp l _ la ld (pt_of (if_pos rfl) l3), ?_⟩
      rw [fe]
      exact al)
  exact mm.nx _ _ _ _ (q l) (by rw [List.length_set]) s3 (e2.trans y3)
/-- self.its_numbers[e2] = e -/
theorem ws_itemF {pf : Addr} {a dx l : Addr} {t n : Option D} {xs : List D} (T : Tx X.K X.mg) (i : Nat) (hS : S[i]? = some (.oob a dx t n (some (l, xs)))) (sf : SlX.Slot1 X.K (cA X.K) f pf 1)
    (h : W X e S fun d => W X e2 S fun y => ∃ k : Nat, y = .int (k : Int) ∧ k < xs.length ∧ D0.nx (S.set i (.oob a dx t n (some (l, xs.set k d))))) (hN : X.N[i]? = some x := by rfl) (hv : Vis X.env.scope x := by first | exact Or.inl rfl | exact Or.inr (Or.inl rfl) | exact Or.inr (Or.inr rfl))
    (hd : (x == ("__debug__" : Str)) = false := by decide) (hcd : (x == ("__classdict__" : Str)) = false := by decide) (hb : attributeBase (.Name x px) f X.env (eval (.Name x px) X.env) = eval (.Name x px) X.env := by rfl)
    (hs : swapsWithSole [.Subscript (.Attribute (.Name x px) f p1) e2 spos] e pos.line X.env = pure false := by rfl)
    (hw : swappedStores [.Subscript (.Attribute (.Name x px) f p1) e2 spos] e X.env = pure none := by rfl)
    (h1 : (assignEach [.Subscript (.Attribute (.Name x px) f p1) e2 spos] X.env).map (·.2) = [assign (.Subscript (.Attribute (.Name x px) f p1) e2 spos) X.env] := by rfl)
    (ha : ∀ v, assign (.Subscript (.Attribute (.Name x px) f p1) e2 spos) X.env v = (do
      let ov ← holding [v] (eval (.Attribute (.Name x px) f p1) X.env)
      let iv ← holding [v, ov] (eval e2 X.env)
      standAt spos
      holding [v, ov, iv] (setItem ov iv v)
      release [v, ov, iv] []) := by intro _; rfl) : WS X (.Assign [.Subscript (.Attribute (.Name x px) f p1) e2 spos] e pos) S D0 := fun ow H σ E st mm => by
  refine PS.we (ps_asg pe_W (pg_sub (SlX.pe_sl (pe_var hN hv hd hcd) hb) pe_W set_list ha) hs hw h1) ?_
  refine h ow H σ _ st fun d v ow1 H1 q st1 e1 i1 => ?_
  have hi : i < S.length := (List.getElem?_eq_some_iff.mp hS).1
  obtain ⟨es, oa, od, vs, z⟩ := st1.oob hS
  obtain ⟨ws, m1, m2, m3, m4, m5⟩ := z.nm l xs rfl
  refine ⟨_, es, a, cA X.K, dx, pf, vs, 1, .ref l, rfl, slt_mono pt_le z.slt, T.cls, sf, m1, ?_⟩
  refine q ow1 H1 σ _ st1 fun y w ow2 H2 q2 st2 e2' i2 => ?_
  obtain ⟨k, rfl, hk, q2⟩ := q2
  cases i2
  obtain ⟨es2, oa2, od2, vs2, z2⟩ := st2.oob hS
  obtain ⟨ws2, n1, n2, n3, n4, n5⟩ := z2.nm l xs rfl
  obtain ⟨g4, ol⟩ := pt_some n4
  refine ⟨l, ws2, _, k, rfl, rfl, g4, ixN_nat (by rw [n5.length]; exact hk), ?_⟩
  have other : ∀ b o, b ≠ l → pt ow2 (i + 1) H2 b = some o → pt ow2 (i + 1) (L2.upd H2 l (.lst (ws2.set k v))) b = some o := fun b o nb hb => by
    obtain ⟨y1, y2⟩ := pt_some hb
    exact pt_of y2 (by rw [upd_ne nb]; exact y1)
  obtain ⟨st3, e3⟩ := st2.upd (s := .oob a dx t n (some (l, xs.set k d))) (o := .lst (ws2.set k v)) ol hi (some_ne g4) (by
    rw [es2]
    refine ⟨rfl, vs2, z2.ne, z2.len, ?_, ?_, z2.tb, z2.nd, fun l' xs' ed => ?_⟩
    · obtain ⟨u, hu⟩ := z2.dict
      exact ⟨u, other dx u (Ne.symm n3) hu⟩
    · rcases z2.slt with ⟨y1, y2⟩ | ⟨y1, y2⟩
      · exact .inl ⟨other a _ (Ne.symm n2) y1, y2⟩
      · exact .inr ⟨other a _ (Ne.symm n2) y1, other dx _ (Ne.symm n3) y2⟩
    · cases ed
      exact ⟨_, n1, n2, n3, pt_of ol upd_same, n5.set (i1.mono e2'.fz) k⟩)
  exact mm.nx _ ow2 _ _ q2 (by rw [List.length_set]) st3 (e1.trans (e2'.trans e3))
/-- self.m(e, ..), an int comes back; the instance may still be written -/
theorem w_methI {k j : Nat} {ps : List Str} {spf : Spo} {a dx l : Addr} {t n : D} {xs : List D} {pl : Sem Bool} (T : Tx X.K X.mg) (i : Nat) (G : MetN X.prog X.w X.K X.mg X.base j m ps (spO X.K spf)) (hr : Rm k X.A) (hjk : j ≤ k) (hS : S[i]? = some (.oob a dx (some t) (some n) (some (l, xs))))
    (h : WA X (e :: es) S fun ds => spf t n (.list xs) ds fun d => ∃ z : Int, d = .int z ∧ Q d) (hN : X.N[i]? = some x := by rfl) (hv : Vis X.env.scope x := by first | exact Or.inl rfl | exact Or.inr (Or.inl rfl) | exact Or.inr (Or.inr rfl))
    (hd : (x == ("__debug__" : Str)) = false := by decide) (hcd : (x == ("__classdict__" : Str)) = false := by decide)
    (hst : starEach (e :: es) X.env = (false, eval e X.env) :: starEach es X.env := by rfl) (hpl : (backTo pos (starEach es X.env)).any (·.1) = false := by rfl)
    (ht : eval (.Call (.Attribute (.Name x px) m apos) (e :: es) [] pos) X.env = (do
      let ov ← eval (.Name x px) X.env
      standAt apos.atName
      let (f, first) ← holding [ov] (getMethod ov m pl)
      callWith pos f first (backTo pos (starEach (e :: es) X.env)) (backToKw pos (keywordEach [] X.env))) := by rfl) : W X (.Call (.Attribute (.Name x px) m apos) (e :: es) [] pos) S Q := fun ow H σ Q' st kk => .mk fun pins s I => by
  obtain ⟨fd, hm, hb, F⟩ := G
  obtain ⟨es', oa, od, vs0, z0⟩ := st.oob hS
  refine PySem.W.methodCall_KW (pl := pl) (thn ((pe_var hN hv hd hcd (pos := px)).run pins s σ H (fun v H1 => v = .ref a ∧ H1 = H) I ⟨_, es', rfl, rfl⟩) fun u s1 ⟨v, H1, I1, rv, e1, e2⟩ => ?_) ht
  subst e1
  subst e2
  obtain rfl : u = Value.ref a := rv
  refine SlX.getmethsl_ok I1 (slt_mono pt_le z0.slt) T.cls hm ?_
  have hA := (h ow H1 σ (fun vs H2 => ∃ (ds : List K3.D) (ow1 : Addr → Nat), (spf t n (.list xs) ds fun d => ∃ z : Int, d = .int z ∧ Q d) ∧ Std X.K ow1 H2 σ S ∧ Stp S.length ow H1 ow1 H2 ∧ IsA X.K (fz ow1 H2) vs ds) st (fun ds vs ow1 H2 q st1 e1 i1 => ⟨ds, ow1, q, st1, e1, i1⟩)).r pos pins s1 I1
  refine PySem.W.callWith_K (first := [.ref a]) (h₀ := X.base) I1.ok.mod.kin hm.kp (thn hA fun us s2 ⟨vs, H2, I2, r, ds, ow1, p, st1, e1, i1⟩ => ⟨I2.kIn, ?_⟩) hst hpl
  obtain ⟨es1, oa1, od1, vs1, z1⟩ := st1.oob hS
  let F1 : Hp := fun b => if ow1 b = 0 ∨ ow1 b = i + 1 then H2 b else none
  have f1 : Ex F1 H2 := fun b o hb => by
    by_cases c : ow1 b = 0 ∨ ow1 b = i + 1
    · have : F1 b = H2 b := if_pos c
      rw [this] at hb
      exact hb
    · have : F1 b = none := if_neg c
      rw [this] at hb
      cases hb
  have f2 : Ex (fz ow1 H2) F1 := fun b o hb => by
    obtain ⟨y1, y2⟩ := pt_some hb
    show (if ow1 b = 0 ∨ ow1 b = i + 1 then H2 b else none) = some o
    rw [if_pos (.inl y2)]
    exact y1
  have f3 : Ex (pt ow1 (i + 1) H2) F1 := fun b o hb => by
    obtain ⟨y1, y2⟩ := pt_some hb
    show (if ow1 b = 0 ∨ ow1 b = i + 1 then H2 b else none) = some o
    rw [if_pos (.inr y2)]
    exact y1
  obtain ⟨ws, m1, m2, m3, m4, m5⟩ := z1.nm l xs rfl
  obtain ⟨vt, t1, t2⟩ := z1.tb t rfl
  obtain ⟨vn, n1, n2⟩ := z1.nd n rfl
  have ob : IsO X.K F1 (.ref a) t n (.list xs) := by
    rcases z1.slt with ⟨y1, y2⟩ | ⟨y1, y2⟩
    · rw [y2] at m1
      cases m1
    · have ev : vs1 = [some vn, some (.ref l), some vt] := by
        have len := z1.len
        match vs1, m1, t1, n1, len with
        | [x0, x1, x2], m1, t1, n1, _ =>
          obtain rfl := Option.some.inj m1
          obtain rfl := Option.some.inj t1
          obtain rfl := Option.some.inj n1
          rfl
        | _ :: _ :: _ :: _ :: _, _, _, _, len => simp at len
      rw [ev] at y1
      exact ⟨a, dx, vt, vn, .ref l, rfl, f3 _ _ y1, f3 _ _ y2, t2.mono f2, n2.mono f2, .lst (f3 _ _ m4) (m5.mono f2)⟩
  refine run_fnG (us := .ref a :: us) (vs := .ref a :: vs) (E := fun _ _ _ => False) F hr.2 (hr.1.mono hjk) hb I2 (.cons rfl r) ⟨F1, .ref a, vs, t, n, .list xs, ds, _, rfl, f1, ob, i1.mono f2, p, fun d v H' rq ex i => ?_⟩
  obtain ⟨z, rfl, rq⟩ := rq
  cases i
  exact kk (.int z) (.int z) (nw ow1 H2) H' rq (st1.ext ex) (e1.trans (.ext ex)) (.int z)
end
end K3
end

section
set_option Elab.async false
set_option linter.all false
set_option autoImplicit false
set_option maxRecDepth 100000
set_option maxHeartbeats 1000000
/-! Counted(..): the promise of __init__, the call. -/
namespace K3
open PySem PySem.Spec PyProof.Rows L2
abbrev Spi := List D → (D → D → D → Prop) → Prop
def cutI (F H H' : Hp) (a dx : Addr) : Hp := fun b => if b = a ∨ b = dx then H' b else cut F H H' b
def spI (K : PySem.W.Frag) (spf : Spi) : Sp := fun vs H Q _ => ∃ (F : Hp) (a dx : Addr) (vs' : List V) (ds : List D) (R : D → D → D → Prop), vs = .ref a :: vs' ∧ Ex F H ∧ F a = none ∧ F dx = none ∧ dx ≠ a ∧ H a = some (.ins (cA K) dx []) ∧ (∃ u, H dx = some u) ∧ IsA K F vs' ds ∧ spf ds R ∧
  ∀ (t n q : D) (H' : Hp), R t n q → (∀ b o, b ≠ a → b ≠ dx → H b = some o → H' b = some o) → IsO K (cutI F H H' a dx) (.ref a) t n q → Q .non H'
def SI {K : PySem.W.Frag} (a dx : Addr) (n : Nat) (ds : List D) : Sto K := .oob a dx none none none :: (ds.map .dat ++ nos (n - 1 - ds.length))
def owI (F : Hp) (a dx : Addr) (n : Nat) : Addr → Nat := fun b => if b = a ∨ b = dx then 1 else match F b with
  | some _ => 0
  | none => n + 1
section
variable {K : PySem.W.Frag} {F H H' : Hp} {a dx : Addr} {n : Nat}
theorem owI_fz (e : Ex F H) (ha : F a = none) (hd : F dx = none) : fz (owI F a dx n) H = F := by
  funext b
  unfold fz pt owI
  by_cases c : b = a ∨ b = dx
  · rw [if_pos c]
    rcases c with c | c
    · rw [c, ha]
      exact if_neg (by decide)
    · rw [c, hd]
      exact if_neg (by decide)
  · rw [if_neg c]
    cases h : F b with
    | none => exact if_neg (Nat.succ_ne_zero n)
    | some o =>
      show (if 0 = 0 then H b else none) = some o
      rw [if_pos rfl]
      exact e b o h
theorem stdI {N : List Str} {vs : List V} {ds : List D} (e : Ex F H) (ha : F a = none) (hd : F dx = none) (ne : dx ≠ a) (h1 : H a = some (.ins (cA K) dx [])) (h2 : ∃ u, H dx = some u) (ia : IsA K F vs ds) (hN : ds.length + 1 ≤ N.length) : Std K (owI F a dx N.length) H (L2.start N (.ref a :: vs)) (SI a dx N.length ds) := by
  have hl := ia.length
  refine ⟨?_, fun i s h => ?_⟩
  · unfold SI nos
    rw [start_len (by rw [List.length_cons]; omega), List.length_cons, List.length_append, List.length_map, List.length_replicate]
    omega
  · rw [start_get, owI_fz e ha hd]
    unfold SI nos at h
    cases i with
    | zero =>
      simp only [List.getElem?_cons_zero, Option.some.injEq] at h
      subst h
      have oa : owI F a dx N.length a = 1 := if_pos (.inl rfl)
      have od : owI F a dx N.length dx = 1 := if_pos (.inr rfl)
      obtain ⟨u, hu⟩ := h2
      exact ⟨rfl, [], ne, by decide, ⟨u, pt_of od hu⟩, .inl ⟨pt_of oa h1, rfl⟩, fun d ed => (nomatch ed), fun d ed => (nomatch ed), fun l d ed => (nomatch ed)⟩
    | succ i =>
      rw [List.getElem?_cons_succ] at h ⊢
      by_cases hi : i < ds.length
      · rw [List.getElem?_append_left (by simpa using hi), List.getElem?_map] at h
        cases hd : ds[i]? with
        | none =>
          rw [hd] at h
          cases h
        | some d =>
          rw [hd] at h
          cases h
          obtain ⟨v, ev, iv⟩ := ia.get hd
          rw [ev]
          exact ⟨v, rfl, iv⟩
      · rw [List.getElem?_append_right (by simpa using hi), List.getElem?_replicate] at h
        split at h
        · cases h
          exact trivial
        · cases h
/-- the end of such a body -/
theorem backI {ow' : Addr → Nat} {vs : List (Option V)} {t nd : D} {l : Addr} {xs : List D} (ha : F a = none) (hd : F dx = none) (hn : 1 ≤ n) (sp : Stp n (owI F a dx n) H ow' H') (z : OobP K a dx (some t) (some nd) (some (l, xs)) (fz ow' H') (pt ow' 1 H') vs) :
    (∀ b o, b ≠ a → b ≠ dx → H b = some o → H' b = some o) ∧ IsO K (cutI F H H' a dx) (.ref a) t nd (.list xs) := by
  have o1 : ∀ b o, b ≠ a → b ≠ dx → H b = some o → H' b = some o ∧ ow' b = owI F a dx n b := fun b o c d h => sp.le h (by
    have e : ¬ (b = a ∨ b = dx) := fun z => z.elim c d
    unfold owI
    rw [if_neg e]
    cases F b with
    | none => exact .inr (Nat.lt_succ_self n)
    | some _ => exact .inl rfl)
  have own : ∀ b, b = a ∨ b = dx → cutI F H H' a dx b = H' b := fun b c => if_pos c
  have old : ∀ b, b ≠ a → b ≠ dx → ow' b ≤ 1 → cutI F H H' a dx b = H' b := fun b c d ob => by
    have e : ¬ (b = a ∨ b = dx) := fun z => z.elim c d
    unfold cutI cut
    rw [if_neg e]
    cases hH : H b with
    | none => rfl
    | some u =>
      cases hF : F b with
      | some v => rfl
      | none =>
        have q := (o1 b u c d hH).2
        unfold owI at q
        rw [if_neg e, hF] at q
        have q' : ow' b = n + 1 := q
        omega
  have fr : Ex (fz ow' H') (cutI F H H' a dx) := fun b o hb => by
    obtain ⟨y1, y2⟩ := pt_some hb
    by_cases c : b = a ∨ b = dx
    · rw [own b c]
      exact y1
    · rw [old b (fun z => c (.inl z)) (fun z => c (.inr z)) (by omega)]
      exact y1
  obtain ⟨ws, m1, m2, m3, m4, m5⟩ := z.nm l xs rfl
  obtain ⟨vt, t1, t2⟩ := z.tb t rfl
  obtain ⟨vn, n1, n2⟩ := z.nd nd rfl
  refine ⟨fun b o c d h => (o1 b o c d h).1, ?_⟩
  rcases z.slt with ⟨y1, y2⟩ | ⟨y1, y2⟩
  · rw [y2] at m1
    cases m1
  · have ev : vs = [some vn, some (.ref l), some vt] := by
      have len := z.len
      match vs, m1, t1, n1, len with
      | [x0, x1, x2], m1, t1, n1, _ =>
        obtain rfl := Option.some.inj m1
        obtain rfl := Option.some.inj t1
        obtain rfl := Option.some.inj n1
        rfl
      | _ :: _ :: _ :: _ :: _, _, _, _, len => simp at len
    rw [ev] at y1
    obtain ⟨l4, l5⟩ := pt_some m4
    exact ⟨a, dx, vt, vn, .ref l, rfl, by rw [own a (.inl rfl)]; exact (pt_some y1).1, by rw [own dx (.inr rfl)]; exact (pt_some y2).1, t2.mono fr, n2.mono fr, .lst (by rw [old l m2 m3 (by omega)]; exact l4) (m5.mono fr)⟩
end
/-- the class is made with such a promise -/
def MkN (P : Program) (w : World) (K : PySem.W.Frag) (mg : Str → Option Value) (base : Heap) (k : Nat) (ps : List Str) (sp : Sp) : Prop :=
  ∃ fd, L2.Mk K (cA K) (sA K "__init__") ∧ mg "Counted" = some (.ref (cA K)) ∧ Binds K fd ps [] ∧ FnG P w K mg base k (sA K "__init__") fd ps sp
theorem fnI_of {P : Program} {w : World} {K : PySem.W.Frag} {mg : Str → Option Value} {base : Heap} {k : Nat} {qual : Str} {st : Stmt} {fd : FuncData} {N ps : List Str} {spf : Spi}
    (Fd : L2.FunD K "__init__" qual (defArgs st) (defBody st) (defScope st) [] [] (sA K "__init__") fd) (hm : L2.Mk K (cA K) (sA K "__init__")) (hg : mg "Counted" = some (.ref (cA K))) (S : FnScope N ps (defScope st))
    (hb : ∀ (kV doc pm : Value) (an : Option Addr) (cdv ct : Value) (us : List Value), us.length = ps.length → bindArgs (PySem.W.fnOf "__init__" qual (defArgs st) (defBody st) (defScope st) .none kV doc pm an cdv ct) ⟨us, []⟩ = pure (ps.zip us))
    (hlen : ∀ ds R, spf ds R → ds.length + 1 = ps.length)
    (hbody : ∀ (cdv : Value) (A : Around) (outer : List Env) (s : Shared) (H : Hp) (E : XK) (a dx : Addr) (ds : List D) (R : D → D → D → Prop), Rm k (A.deeper (envOfC qual (defScope st) s.heap.objs.size (sA K "__init__") cdv)) → spf ds R →
      WSs (Bx P w K mg base N qual (defScope st) (sA K "__init__") cdv A outer s H E) (defBody st) (SI a dx N.length ds) { nx := fun S' => ∃ t n l xs, S'[0]? = some (.oob a dx (some t) (some n) (some (l, xs))) ∧ R t n (.list xs), rt := fun _ _ => False }) :
    MkN P w K mg base (k + 1) ps (spI K spf) := by
  refine ⟨fd, hm, hg, FunD.bindsN Fd hb, ?_⟩
  obtain ⟨oc, od, dV, kV, doc, pm, an, cdv, ct, osl, rfl, lk, hcd, hdf, hkw⟩ := Fd.ex
  have hpN : ps.length ≤ N.length := by
    have e : (N.take ps.length).length = ps.length := congrArg List.length S.pre
    rw [List.length_take] at e
    omega
  refine fnG_of lk hcd S (fun vs H Q E h => ?_) fun A outer s H vs Q E hgd hr h => ?_
  · obtain ⟨F, a, dx, vs', ds, R, rfl, _, _, _, _, _, _, ia, p, _⟩ := h
    rw [List.length_cons, ia.length]
    exact hlen ds R p
  · obtain ⟨F, a, dx, vs', ds, R, rfl, ex, ha, hd, ne, h1, h2, ia, p, kk⟩ := h
    have hdl := hlen ds R p
    have st0 := stdI (N := N) ex ha hd ne h1 h2 ia (by omega)
    have l0 : (SI (K := K) a dx N.length ds).length = N.length := by
      rw [st0.len]
      exact start_len (by rw [List.length_cons, ia.length]; omega)
    refine hbody cdv A outer s H E a dx ds R ⟨hr, hgd⟩ p (owI F a dx N.length) H (L2.start N (.ref a :: vs')) _ st0 ⟨fun S' ow' H' σ' p l st' sp => ?_, fun d v S' ow' H' σ' p => p.elim, fun S' ow' H' σ' p => p.elim, fun S' ow' H' σ' p => p.elim⟩
    obtain ⟨t, n, l, xs, hS, r⟩ := p
    have sp' : Stp (SI (K := K) a dx N.length ds).length (owI F a dx N.length) H ow' H' := sp
    rw [l0] at sp'
    obtain ⟨_, _, _, vs, z⟩ := st'.oob hS
    obtain ⟨b1, b2⟩ := backI ha hd (by omega) sp' z
    exact kk t n (.list xs) H' r b1 b2
end K3
end

section
set_option Elab.async false
set_option linter.all false
set_option autoImplicit false
set_option maxRecDepth 100000
set_option maxHeartbeats 1000000
/-! Counted(..): the call; __init__. -/
namespace K3
open PySem PySem.Spec PyProof.Rows L2
section
variable {X : Cx} {S : Sto X.K} {e : Expr} {es : List Expr} {p pos : Pos}
theorem run_makeG {k : Nat} {C f : Addr} {fd : FuncData} {ps : List Str} {sp : Sp} {E : XK} {pins : List (Addr × Obj)} {σ : L2.St} {H : Hp} {s : Shared} {Q : VK} {us : List Value} {vs : List V} (M : L2.Mk X.K C f) (F : FnG X.prog X.w X.K X.mg X.base k f fd ps sp) (hgd : X.A.guards = some []) (hr : Room (k + 1) X.A) (hb : Binds X.K fd ps [])
    (I : Inv X pins σ H s) (r : Vals vs us) (h : ∀ x dx, H x = none → H dx = none → dx ≠ x → sp (.ref x :: vs) (upd (upd H dx (.own x)) x (.ins C dx [])) (fun v H2 => v = .non ∧ Q (.ref x) H2) E) :
    wpAny (model X.prog X.w) X.A (call (.ref C) us) (EP X pins σ Q) X.xe s := by
  have hq := h (s.heap.objs.size + 1) s.heap.objs.size (I.hok.fresh (Nat.le_succ _)) (I.hok.fresh (Nat.le_refl _)) (Nat.ne_of_lt (Nat.lt_succ_self _))
  have I2 := Inv.made (C := C) I
  have r2 : Vals (V.ref (s.heap.objs.size + 1) :: vs) (Value.ref (s.heap.objs.size + 1) :: us) := .cons rfl r
  have hl : (Value.ref (s.heap.objs.size + 1) :: us).length = ps.length := by
    have e := r2.length
    rw [F.len _ _ _ _ hq] at e
    exact e.symm
  have hb' := hb _ (Value.ref (s.heap.objs.size + 1) :: us) I2.kIn (by rw [List.append_nil]; exact hl)
  rw [List.append_nil] at hb'
  refine wpAny_call (make_map (f := f) I.kIn M.makes M.init (beq_iff_eq.mp M.fn) (codeAny_mono (F.run _ X.stack _ _ ⟨Value.ref (s.heap.objs.size + 1) :: us, []⟩ (Value.ref (s.heap.objs.size + 1) :: us) _ _ E ?gd (hr.make C us [])
    (I2.env0.make C us []) hb' r2 hq) fun r s' hq' => ?_))
  case gd => exact hgd
  cases r with
  | error e => exact False.elim hq'
  | ok fl =>
    cases fl with
    | ret u =>
      obtain ⟨v, H', I3, rv, ev, q3⟩ := I2.after hq'
      subst ev
      exact ⟨rv, ⟨V.ref (s.heap.objs.size + 1), H', I3, rfl, q3⟩⟩
    | next => exact False.elim hq'
    | brk => exact False.elim hq'
    | cont => exact False.elim hq'
theorem wv_make {k j : Nat} {ps : List Str} {spf : Spi} {QS : Sv X.K → Prop} (G : MkN X.prog X.w X.K X.mg X.base j ps (spI X.K spf)) (hr : Rm k X.A) (hjk : j + 1 ≤ k) (h : WA X (e :: es) S fun ds => spf ds fun t n q => QS (.obj t n q)) (hg : Gl X "Counted" := by rfl)
    (he : starEach (e :: es) X.env = (false, eval e X.env) :: starEach es X.env := by rfl) (hpl : (backTo pos (starEach es X.env)).any (·.1) = false := by rfl) : WV X (.Call (.Name "Counted" p) (e :: es) [] pos) S QS := fun ow H σ Q' st kk => .mk fun pins s I => by
  obtain ⟨fd, M, hm, hb, F⟩ := G
  refine wpAny_Call_Name_kw (ld_glob I hg hm ?_ (by decide))
  have hA := (h ow H σ (fun vs H2 => ∃ (ds : List K3.D) (ow1 : Addr → Nat), (spf ds fun t n q => QS (.obj t n q)) ∧ Std X.K ow1 H2 σ S ∧ Stp S.length ow H ow1 H2 ∧ IsA X.K (fz ow1 H2) vs ds) st (fun ds vs ow1 H2 q st1 e1 i1 => ⟨ds, ow1, q, st1, e1, i1⟩)).r pos pins s I
  refine PySem.W.callWith_K (h₀ := X.base) I.ok.mod.kin M.kp (thn hA fun us s1 ⟨vs, H1, I1, r, ds, ow1, p, st1, e1, i1⟩ => ⟨I1.kIn, ?_⟩) he hpl
  refine run_makeG (E := fun _ _ _ => False) M F hr.2 (hr.1.mono hjk) hb I1 r fun a dx ha hd ne => ?_
  have h1 : Ex H1 (upd (upd H1 dx (.own a)) a (.ins (cA X.K) dx [])) := (Evl.Ex.new hd).trans (Evl.Ex.new (by rw [upd_ne (Ne.symm ne)]; exact ha))
  have f0 : ∀ b, H1 b = none → fz ow1 H1 b = none := fun b hb => by
    unfold fz pt
    rw [hb]
    split <;> rfl
  refine ⟨fz ow1 H1, a, dx, vs, ds, _, rfl, pt_le.trans h1, f0 a ha, f0 dx hd, ne, upd_same, ⟨.own a, by rw [upd_ne ne, upd_same]⟩, i1, p, fun t n q H' hq keep ob => ⟨rfl, ?_⟩⟩
  have ex : Ex H1 H' := fun b o hb => by
    have na : b ≠ a := fun c => by rw [c, ha] at hb; cases hb
    have nd : b ≠ dx := fun c => by rw [c, hd] at hb; cases hb
    exact keep b o na nd (h1 b o hb)
  have sub : Ex (cutI (fz ow1 H1) (upd (upd H1 dx (.own a)) a (.ins (cA X.K) dx [])) H' a dx) (fz (nw ow1 H1) H') := fun b o hb => by
    rw [fz_nw]
    unfold cutI at hb
    by_cases c : b = a ∨ b = dx
    · rw [if_pos c] at hb
      rw [cut_new (by rcases c with c | c <;> rw [c] <;> assumption)]
      exact hb
    · rw [if_neg c] at hb
      have e : upd (upd H1 dx (.own a)) a (.ins (cA X.K) dx []) b = H1 b := by rw [upd_ne (fun z => c (.inl z)), upd_ne (fun z => c (.inr z))]
      unfold cut at hb ⊢
      rw [e] at hb
      exact hb
  exact kk (.obj t n q) (.ref a) (nw ow1 H1) H' hq (st1.ext ex) (e1.trans (.ext ex)) ⟨.ref a, rfl, ob.mono sub⟩
end
end K3
end

section
set_option Elab.async false
set_option linter.all false
set_option autoImplicit false
set_option maxRecDepth 100000
set_option maxHeartbeats 2000000
/-! Counted.__init__ -/
namespace K3
open PySem PySem.Spec PyProof.Rows L2
section
variable {X : Cx} {S : Sto X.K} {Q : D → Prop} {o e f : Expr} {apos cpos : Pos}
/-- {}.get(e, f) -/
theorem w_get0 (hu : X.A.units + 1 < cLine) (h : W X o S fun d => d = dicD [] ∧ W X e S fun y => ∃ n : Int, y = .int n ∧ W X f S Q) (hb : attributeBase o "get" X.env (eval o X.env) = eval o X.env := by rfl)
    (hf : ((backTo cpos (starEach [e, f] X.env)).all (fun x => !x.1) && (backToKw cpos (keywordEach [] X.env)).all (fun x => x.1.isSome) && decide (([e, f] : List Expr).length + ([] : List Keyword).length + (if ([] : List Keyword).isEmpty then 0 else 1) < 30)) = true := by rfl)
    (hl : (apos.endLine == cpos.line) = true := by rfl) (ht : backTo cpos (starEach [e, f] X.env) = [(false, eval e X.env), (false, eval f X.env)] := by rfl) : W X (.Call (.Attribute o "get" apos) [e, f] [] cpos) S Q := fun ow H σ Q' st k => by
  refine PE.we (pe_dget2 hu pe_W pe_W pe_W ⟨hb, hf, hl, ht⟩) ?_
  refine h ow H σ _ st fun d w ow1 H1 q st1 e1 i1 => ?_
  obtain ⟨rfl, q⟩ := q
  obtain ⟨a, kvs, ob, rfl, rd', ik⟩ := i1.dicI
  have rd : Rd H1 a (.dK kvs) := .inr ⟨ob, pt_le _ _ rd'⟩
  cases ik
  refine ⟨a, rfl, .inl ⟨_, rd⟩, ?_⟩
  refine q ow1 H1 σ _ st1 fun y v ow2 H2 q2 st2 e2 i2 => ?_
  obtain ⟨n, rfl, q2⟩ := q2
  cases i2
  refine q2 ow2 H2 σ _ st2 fun z u ow3 H3 q3 st3 e3 i3 => ?_
  refine ⟨none, .inl ⟨[], Sum.inl n, .inr ⟨ob, pt_le _ _ (e3.fz _ _ (e2.fz _ _ rd'))⟩, rfl, rfl⟩, ?_⟩
  exact k z u ow3 H3 q3 st3 (e1.trans (e2.trans e3)) i3
end
section
variable {X : Cx} {S : Sto X.K} {Q : D → Prop} {a : Expr} {pos : Pos}
theorem w_neg (h : W X a S fun d => ∃ i : Int, d = .int i ∧ Q (.int (-i))) : W X (.UnaryOp .USub a pos) S Q := fun ow H σ Q' st k => by
  refine PE.we (pe_un un_neg pe_W) ?_
  refine h ow H σ _ st fun d v ow1 H1 q st1 e1 i1 => ?_
  obtain ⟨i, rfl, q⟩ := q
  cases i1
  exact ⟨i, rfl, k _ _ ow1 H1 q st1 e1 (.int _)⟩
end
theorem waysP_cg {Q Q' : List (List Nat)} : ∀ {as : List Nat} (bs : List Nat), (∀ a, a ∈ as → Q.getD a [] = Q'.getD a []) → waysP Q as bs = waysP Q' as bs
  | [], bs, _ => by rw [waysP_nil, waysP_nil]
  | a :: as, [], _ => by rw [waysP_nil2, waysP_nil2]
  | a :: as, b :: bs, h => by rw [waysP, waysP, h a (List.mem_cons_self ..), waysP_cg bs fun c hc => h c (List.mem_cons_of_mem _ hc)]
theorem WOk.cg {Q Q' : List (List Nat)} {as bs : List Nat} (h : WOk Q as bs) (e : ∀ a, a ∈ as → Q'.getD a [] = Q.getD a []) (hl : Q'.length = Q.length) : WOk Q' as bs := ⟨h.1, fun i a b ea eb => by
  obtain ⟨h1, h2, h3⟩ := h.2 i a b ea eb
  rw [hl, e a (List.mem_of_getElem? ea)]
  exact ⟨h1, h2, h3⟩⟩
/-- the counts of the entries so far -/
def cnE (ps : List Pr) (t : Tb) (sg : Nat) (es : List En) (k : Nat) : Nat := ((es.filter fun e => decide (e.s = sg) && decide (e.k = k)).map fun e => cnts t ps e.ps).sum
theorem cnE_nil (ps : List Pr) (t : Tb) (sg k : Nat) : cnE ps t sg [] k = 0 := rfl
theorem cnE_snoc (ps : List Pr) (t : Tb) (sg : Nat) (es : List En) (e : En) (k : Nat) : cnE ps t sg (es ++ [e]) k = cnE ps t sg es k + (if e.s = sg ∧ e.k = k then cnts t ps e.ps else 0) := by
  unfold cnE
  rw [List.filter_append, List.map_append, List.sum_append]
  congr 1
  by_cases c : e.s = sg ∧ e.k = k
  · rw [if_pos c, List.filter_cons_of_pos (by simp [c.1, c.2])]
    simp
  · rw [if_neg c, List.filter_cons_of_neg]
    · rfl
    · rw [Bool.and_eq_true, decide_eq_true_eq, decide_eq_true_eq]
      exact c
theorem cnE_all (ps : List Pr) (t : Tb) (sg k : Nat) : cnE ps t sg t.ents k = cnt t (.node sg ps) k := by
  rw [cnt]
  rfl
theorem map_range_set {n k : Nat} (f g : Nat → D) (h : k < n) (e : ∀ j, j ≠ k → g j = f j) : ((List.range n).map f).set k (g k) = (List.range n).map g := by
  refine List.ext_getElem? fun i => ?_
  rw [List.getElem?_set, List.length_map, List.length_range, List.getElem?_map, List.getElem?_map]
  by_cases hi : k = i
  · subst hi
    rw [if_pos rfl, if_pos h, List.getElem?_range h]
    rfl
  · rw [if_neg hi]
    by_cases hl : i < n
    · rw [List.getElem?_range hl]
      show some (f i) = some (g i)
      rw [e i (Ne.symm hi)]
    · rw [List.getElem?_eq_none (by rw [List.length_range]; omega)]
      rfl
section
variable {P : Program} {w : World} {K : PySem.W.Frag} {mg : Str → Option Value} {base : Heap}
def spInit : Spi := fun ds R => ∃ (many : Nat) (t : Tb) (p : Pr), ds = [t.enc, p.enc, dicD []] ∧ TbW many t ∧ many ≤ 4 ∧ PrOk t.signs p ∧ p.size ≤ 10 ∧ R t.enc (ndsD (nodes p)) (numD' (numsL t p))
abbrev n15_1 : List Str := ["self", "table", "program", "pins", "node", "numbers", "sign", "tops", "its", "parts", "kind"]
theorem sc15_1 : FnScope n15_1 ["self", "table", "program", "pins"] (defScope (cSt 1)) := ⟨rfl, rfl, rfl, by decide +kernel, rfl, by decide +kernel, by decide +kernel⟩
theorem Tx.mkC (T : Tx K mg) : L2.Mk K (cA K) (sA K "__init__") := by
  have hin : He.Fa.mkr "Counted" ∈ fa3 := by
    unfold fa3
    exact List.mem_append_right _ (List.mem_cons_self ..)
  obtain ⟨i, hi⟩ := List.getElem?_of_mem hin
  exact He.mkr_ok (T.c.fact i hi)
/-- the numbers, the nodes below m being open -/
def numsFrom (t : Tb) (p : Pr) (m : Nat) : List (List Nat) := List.replicate m [] ++ (numsL t p).drop m
theorem numsFrom_get {t : Tb} {p : Pr} {m j : Nat} (h : m ≤ j) (hm : m ≤ p.size) : (numsFrom t p m)[j]? = (numsL t p)[j]? := by
  unfold numsFrom
  rw [List.getElem?_append_right (by rw [List.length_replicate]; exact h), List.length_replicate, List.getElem?_drop]
  congr 1
  omega
theorem numsL_len (t : Tb) (p : Pr) : (numsL t p).length = p.size := by rw [numsL, List.length_map, Pr.subs_len]
theorem numsFrom_len {t : Tb} {p : Pr} {m : Nat} (hm : m ≤ p.size) : (numsFrom t p m).length = p.size := by
  unfold numsFrom
  rw [List.length_append, List.length_replicate, List.length_drop, numsL_len]
  omega
theorem numsFrom_set {t : Tb} {p q : Pr} {m : Nat} (h : p.subs[m]? = some q) : (numsFrom t p (m + 1)).set m ((List.range t.many).map (cnt t q)) = numsFrom t p m := by
  have hm : m < p.size := by
    have := (List.getElem?_eq_some_iff.mp h).1
    rwa [Pr.subs_len] at this
  refine List.ext_getElem? fun i => ?_
  rw [List.getElem?_set]
  by_cases e : m = i
  · subst e
    rw [if_pos rfl, numsFrom_len (by omega), if_pos hm, numsFrom_get (Nat.le_refl _) (by omega), numsL_at h]
  · rw [if_neg e]
    by_cases c : i < m
    · unfold numsFrom
      rw [List.getElem?_append_left (by rw [List.length_replicate]; omega), List.getElem?_append_left (by rw [List.length_replicate]; omega), List.getElem?_replicate, List.getElem?_replicate, if_pos (by omega), if_pos c]
    · rw [numsFrom_get (by omega) (by omega), numsFrom_get (by omega) (by omega)]
theorem ok_init (T : Tx K mg) : MkN P w K mg base 12 ["self", "table", "program", "pins"] (spI K spInit) := by
  obtain ⟨fd, F⟩ := T.metD (x := "__init__") (q := "Counted.__init__") (j := 1) 37
  refine fnI_of F T.mkC (T.glo "Counted" (by decide +kernel)) sc15_1 (fun _ _ _ _ _ _ us hl => match us, hl with | [_, _, _, _], _ => rfl) (fun ds R h => by obtain ⟨_, _, _, rfl, _⟩ := h; rfl) fun cdv A outer s H E a dx ds R hr h => ?_
  obtain ⟨many, t, p, rfl, ht, h4, hp, hz, r⟩ := h
  have hu : (A.deeper (envOfC "Counted.__init__" (defScope (cSt 1)) s.heap.objs.size (sA K "__init__") cdv)).units + 1 < cLine := L2.hu_of hr.1
  have hdep : p.depth ≤ 10 := Nat.le_trans p.depth_le_size hz
  have hpos := p.size_pos
  have nl := nodes_length p
  refine wss_cons (ws_two T 0 rfl T.sTable T.sNodes (w_tup (wa_cons (w_var 1 rfl (wa_cons (w_call (ok_nodes T 10) hr (by decide) (wa_cons (w_var 2 rfl (wa_nil ⟨p, rfl, hdep, by omega, wa_nil ⟨szl (Nat.le_of_ble_eq_true rfl), _, _, rfl, fun _ => ?_⟩⟩)))))))))
  refine wss_cons (ws_numF T 0 rfl T.sNumbers (wv_rep (w_lst (wa_cons (w_tup (wa_nil ⟨szl (Nat.le_of_ble_eq_true rfl), wa_nil ⟨szl (Nat.le_of_ble_eq_true rfl), _, rfl, w_len T (w_fld T 0 rfl T.sNodes (.inr ⟨rfl, rfl⟩) ⟨_, .inl rfl, p.size, by rw [List.length_map, nl], by omega, _, rfl, fun l _ => ?_⟩)⟩⟩))))))
  have e0 : List.replicate p.size (PyData.tuple []) = (numsFrom t p p.size).map tN := by
    unfold numsFrom
    rw [List.drop_eq_nil_of_le (by rw [numsL_len]; exact Nat.le_refl _), List.append_nil, List.map_replicate]
    rfl
  rw [e0]
  refine wss_one (ws_forN 4 sc15_1.nd (wi_down rfl T.free (wa_cons (w_op (w_len T (w_fld T 0 rfl T.sNodes (.inr ⟨rfl, rfl⟩) ⟨_, .inl rfl, w_int (od_sub (wa_cons (w_neg (w_int ⟨1, rfl, wa_cons (w_neg (w_int ⟨1, rfl, wa_nil ⟨_, _, rfl, ?_, ?_⟩⟩))⟩))))⟩))))))
  · rw [List.length_map, nl]
    omega
  rw [List.length_map, nl]
  have en : (((p.size : Nat) : Int) - 1 - -1).toNat = p.size := by omega
  rw [en]
  refine forQ_map (List.range p.size) (fun (k : Nat) => (PyData.int (((p.size : Nat) : Int) - 1 + ((k : Nat) : Int) * -1) : D)) (fun pre S' => pre.length ≤ p.size ∧ ∃ c4 c5 c6 c7 c8 c9 c10 : Sv K, S' = [.oob a dx (some t.enc) (some (ndsD (nodes p))) (some (l, (numsFrom t p (p.size - pre.length)).map tN)), .dat t.enc, .dat p.enc, .dat (dicD []), c4, c5, c6, c7, c8, c9, c10]) ⟨Nat.zero_le _, .no, .no, .no, .no, .no, .no, .no, rfl⟩ (fun pre k post S' ee hl hs => ?_) (fun S' hl hs => ?_)
  · obtain ⟨hle, c4, c5, c6, c7, c8, c9, c10, rfl⟩ := hs
    have kk : k = pre.length ∧ pre.length < p.size := by
      have h1 : (List.range p.size)[pre.length]? = some k := by rw [ee, List.getElem?_append_right (Nat.le_refl _), Nat.sub_self]; rfl
      have h2 := (List.getElem?_eq_some_iff.mp h1).1
      rw [List.length_range] at h2
      rw [List.getElem?_range h2] at h1
      exact ⟨(Option.some.inj h1).symm, h2⟩
    obtain ⟨rfl, hlt⟩ := kk
    obtain ⟨m, hm⟩ : ∃ m, p.size - pre.length = m + 1 := ⟨p.size - pre.length - 1, by omega⟩
    have em : (((p.size : Nat) : Int) - 1 + ((pre.length : Nat) : Int) * -1) = ((m : Nat) : Int) := by omega
    have em2 : p.size - (pre ++ [pre.length]).length = m := by rw [List.length_append, List.length_singleton]; omega
    rw [em, em2, hm]
    have hms : m < p.subs.length := by rw [Pr.subs_len]; omega
    obtain ⟨q, hq⟩ : ∃ q, p.subs[m]? = some q := ⟨_, List.getElem?_eq_getElem hms⟩
    obtain ⟨x, nx⟩ := Pr.node_at p m q hq
    have hqo := subs_ok hp (List.mem_of_getElem? hq)
    have hqz := subs_size (List.mem_of_getElem? hq)
    cases q with
    | hole => exact absurd hqo.2 (by rw [Pr.full]; exact id)
    | node sg ps =>
      obtain ⟨xs, tops⟩ := x
      have xe : xs = some sg := nx.sg
      subst xe
      have tl : tops.length = ps.length := nx.len
      have hqa := hqo.1
      rw [Pr.AllS] at hqa
      have hs := hqa.1
      have hsz : (Pr.node sg ps).size ≤ 10 := by omega
      refine ⟨_, rfl, wss_cons (ws_unp2 6 7 sc15_1.nd (w_ix (w_fld T 0 rfl T.sNodes (.inr ⟨rfl, rfl⟩) (w_var 4 rfl (xd_lst (d := Nd.enc (some sg, tops)) (by rw [List.getElem?_map, nx.get]; rfl) ⟨dN sg, tN tops, rfl, fun _ => ?_⟩)))))⟩
      refine wss_cons (ws_setV 5 sc15_1.nd (wv_rep (w_lst (wa_cons (w_int (wa_nil ⟨szl (Nat.le_of_ble_eq_true rfl), _, rfl, w_ix (w_var 1 rfl (w_int (xd_tup (i := 0) rfl ⟨t.many, rfl, by rw [ht.m]; omega, fun _ => ?_⟩)))⟩))))))
      have e1 : List.replicate t.many (PyData.int 0) = (List.range t.many).map fun k => dN (cnE ps t sg [] k) := by
        refine List.ext_getElem? fun i => ?_
        rw [List.getElem?_map, List.getElem?_replicate]
        by_cases hi : i < t.many
        · rw [List.getElem?_range hi, if_pos hi]
          rfl
        · rw [if_neg hi, List.getElem?_eq_none_iff.mpr (by rw [List.length_range]; omega)]
          rfl
      rw [e1]
      refine wss_cons (ws_forT3 8 9 10 sc15_1.nd (wi_tup (w_ix (w_var 1 rfl (w_int (xd_tup (i := 2) rfl ⟨_, rfl, ?_⟩)))) (p := true)))
      refine forQ_map t.ents En.enc (fun es S' => ∃ c8 c9 c10 : Sv K, S' = [.oob a dx (some t.enc) (some (ndsD (nodes p))) (some (l, (numsFrom t p (m + 1)).map tN)), .dat t.enc, .dat p.enc, .dat (dicD []), .dat (dN m), .own ((List.range t.many).map fun k => dN (cnE ps t sg es k)), .dat (dN sg), .dat (tN tops), c8, c9, c10]) ⟨c8, c9, c10, rfl⟩ (fun es e post' S' ee' hl hs' => ?_) (fun S' hl hs' => fun _ => ?_)
      · obtain ⟨c8, c9, c10, rfl⟩ := hs'
        have he : e ∈ t.ents := by rw [ee']; simp
        have hE := ht.e e he
        have hkm : e.k < t.many := by rw [ht.m]; exact hE.2.2
        have skip : (e.s ≠ sg) → (List.range t.many).map (fun k => dN (cnE ps t sg (es ++ [e]) k)) = (List.range t.many).map fun k => dN (cnE ps t sg es k) := fun ne => List.map_congr_left fun k _ => by
          rw [cnE_snoc, if_neg fun z => ne z.1, Nat.add_zero]
        refine ⟨_, ⟨[dN e.s, tN e.ps, dN e.k], rfl, rfl, rfl⟩, wss_one (ws_if (wt_pw (ww_and (wt_cmp (w_var 8 rfl (w_var 6 rfl (od_eq ⟨_, rfl, ite_dec (fun c => ?_) fun c => ?_⟩)))))))⟩
        · refine ww_and1 (wt_cmp (w_get0 hu (w_var 3 rfl ⟨rfl, w_var 4 rfl ⟨_, rfl, w_var 10 rfl (w_var 10 rfl (od_eq ⟨_, rfl, ite_dec (fun _ => ?_) fun z => absurd rfl z⟩))⟩⟩)))
          have c' : e.s = sg := Int.ofNat.inj c
          have hat : e ∈ t.at sg e.k := by
            unfold Tb.at
            rw [List.mem_filter, Bool.and_eq_true, decide_eq_true_eq, decide_eq_true_eq]
            exact ⟨he, c', rfl⟩
          have hal := (ar_of ht hs hat).1
          have wc := ways_cnts ht hz ps tops e.ps tl hal (fun i m' ei => (nx.tops i m' ei).2) hE.2.1
          have wf : WOk (numsFrom t p (m + 1)) tops e.ps ∧ waysP (numsFrom t p (m + 1)) tops e.ps = cnts t ps e.ps := by
            have eg : ∀ a, a ∈ tops → (numsFrom t p (m + 1)).getD a [] = (numsL t p).getD a [] := fun a ha => by
              obtain ⟨i, hi⟩ := List.getElem?_of_mem ha
              have := (nx.tops i a hi).1
              rw [List.getD_eq_getElem?_getD, List.getD_eq_getElem?_getD, numsFrom_get (by omega) (by omega)]
            exact ⟨wc.1.cg eg (by rw [numsFrom_len (by omega), numsL_len]), by rw [waysP_cg e.ps eg, wc.2]⟩
          refine wss_one (ws_augO 5 ip_add OwnL.own rfl (w_var 10 rfl ⟨e.k, _, rfl, by rw [List.getElem?_map, List.getElem?_range hkm]; rfl, w_methI T 0 (ok_ways T) hr (by decide) rfl (wa_cons (w_var 7 rfl (wa_cons (w_var 9 rfl (wa_nil ⟨_, tops, e.ps, rfl, rfl, wf.1, _, rfl, _, rfl, .dat (dN e.s), .dat (tN e.ps), .dat (dN e.k), ?_⟩)))))⟩))
          rw [wf.2]
          have e2 : ((List.range t.many).map fun k => dN (cnE ps t sg es k)).set e.k (.int (((cnE ps t sg es e.k : Nat) : Int) + ((cnts t ps e.ps : Nat) : Int))) = (List.range t.many).map fun k => dN (cnE ps t sg (es ++ [e]) k) := by
            have e3 : PyData.int (((cnE ps t sg es e.k : Nat) : Int) + ((cnts t ps e.ps : Nat) : Int)) = dN (cnE ps t sg (es ++ [e]) e.k) := by
              rw [cnE_snoc, if_pos ⟨c', rfl⟩]
              rfl
            rw [e3]
            refine map_range_set (fun k => dN (cnE ps t sg es k)) (fun k => dN (cnE ps t sg (es ++ [e]) k)) hkm fun j hj => ?_
            show dN _ = dN _
            rw [cnE_snoc, if_neg fun z => hj z.2.symm, Nat.add_zero]
          rw [← e2]
          rfl
        · have c' : e.s ≠ sg := fun z => c (by rw [z])
          refine wss_nil ⟨.dat (dN e.s), .dat (tN e.ps), .dat (dN e.k), ?_⟩
          rw [skip c']
          rfl
      · obtain ⟨c8, c9, c10, rfl⟩ := hs'
        refine wss_frz 5 rfl (wss_one (ws_itemF T 0 rfl T.sNumbers (w_tuple T (w_var 5 rfl ⟨_, rfl, w_var 4 rfl ⟨m, rfl, by rw [List.length_map, numsFrom_len (by omega)]; omega, by rw [List.length_append, List.length_singleton]; omega, .dat (dN m), .dat (.list ((List.range t.many).map fun k => dN (cnE ps t sg t.ents k))), .dat (dN sg), .dat (tN tops), c8, c9, c10, ?_⟩⟩))))
        have e4 : ((numsFrom t p (m + 1)).map tN).set m (.tuple ((List.range t.many).map fun k => dN (cnE ps t sg t.ents k))) = (numsFrom t p m).map tN := by
          rw [← numsFrom_set hq, List.map_set]
          refine congrArg (fun z => List.set _ m z) ?_
          show PyData.tuple _ = tN _
          rw [tN, List.map_map]
          refine congrArg PyData.tuple (List.map_congr_left fun k _ => ?_)
          rw [cnE_all]
          rfl
        rw [← e4]
        rfl
  · obtain ⟨_, c4, c5, c6, c7, c8, c9, c10, rfl⟩ := hs
    rw [List.length_range, Nat.sub_self]
    refine ⟨_, _, l, _, rfl, ?_⟩
    have e1 : numsFrom t p 0 = numsL t p := by
      unfold numsFrom
      rw [List.replicate_zero, List.nil_append, List.drop_zero]
    rw [e1]
    exact r
end
end K3
end

section
set_option Elab.async false
set_option linter.all false
set_option autoImplicit false
set_option maxRecDepth 100000
set_option maxHeartbeats 1000000
/-! readings_many, readings_of -/
namespace K3
open PySem PySem.Spec PyProof.Rows L2
section
variable {X : Cx} {S : Sto X.K} {Q : D → Prop} {e : Expr} {f : Str} {pos : Pos}
/-- e.f, e an instance of Counted -/
theorem w_atE {p : Addr} {j : Nat} (T : Tx X.K X.mg) (sl : SlX.Slot1 X.K (cA X.K) f p j) (h : WV X e S fun s => ∃ t n q d, s = .obj t n q ∧ [n, q, t][j]? = some d ∧ Q d) (hb : attributeBase e f X.env (eval e X.env) = eval e X.env := by rfl) : W X (.Attribute e f pos) S Q := fun ow H σ Q' st kk => by
  refine PE.we (SlX.pe_sl pe_W hb) ?_
  refine h ow H σ _ st fun s v ow1 H1 q st1 e1 ok => ?_
  obtain ⟨t, n, qq, d, rfl, hj, q⟩ := q
  obtain ⟨u, eu, a, dx, vt, vn, vq, rfl, h1, h2, it, inn, iq⟩ := ok
  obtain rfl := Option.some.inj eu
  obtain ⟨g1, _⟩ := pt_some h1
  obtain ⟨g2, _⟩ := pt_some h2
  have ev : ∃ v, [some vn, some vq, some vt][j]? = some (some v) ∧ Is X.K (fz ow1 H1) v d := by
    match j, hj with
    | 0, hj => exact ⟨vn, rfl, by cases hj; exact inn⟩
    | 1, hj => exact ⟨vq, rfl, by cases hj; exact iq⟩
    | 2, hj => exact ⟨vt, rfl, by cases hj; exact it⟩
  obtain ⟨v, ev, iv⟩ := ev
  exact ⟨a, cA X.K, dx, p, _, j, v, rfl, .inr ⟨g1, g2⟩, T.cls, sl, ev, kk d v ow1 H1 q st1 e1 iv⟩
end
section
variable {P : Program} {w : World} {K : PySem.W.Frag} {mg : Str → Option Value} {base : Heap}
structure RdOk (many : Nat) (t : Tb) (p : Pr) : Prop where
  w : TbW many t
  m4 : many ≤ 4
  pr : PrOk t.signs p
  z : p.size ≤ 10
theorem RdOk.nums {many : Nat} {t : Tb} {p : Pr} (h : RdOk many t p) : (numsL t p)[0]? = some ((List.range t.many).map (cnt t p)) := numsL_at (Pr.subs_zero p)
/-! ### readings_many -/
def spMany : Spf := fun ds R => ∃ (many : Nat) (t : Tb) (p : Pr), ds = [t.enc, p.enc, dicD []] ∧ RdOk many t p ∧ R (tN ((List.range t.many).map (cnt t p)))
abbrev n16 : List Str := ["table", "program", "pins"]
theorem sc16 : FnScope n16 n16 (defScope (top 16)) := ⟨rfl, rfl, rfl, by decide +kernel, rfl, by decide +kernel, by decide +kernel⟩
theorem ok_many (T : Tx K mg) : FnN P w K mg base 14 "readings_many" n16 (spD K spMany) := by
  obtain ⟨f, fd, F, hmg⟩ := T.top (x := "readings_many") (j := 16) 6
  refine fnD_of F hmg sc16 (fun _ _ _ _ _ _ us hl => match us, hl with | [_, _, _], _ => rfl) (fun ds R h => by obtain ⟨_, _, _, rfl, _⟩ := h; rfl) fun cdv A outer s H E ds R hr h => ?_
  obtain ⟨many, t, p, rfl, ok, r⟩ := h
  refine wss_one (ws_ret (w_ix (w_atE T T.sNumbers (wv_make (ok_init T) hr (by decide) (wa_cons (w_var 0 rfl (wa_cons (w_var 1 rfl (wa_cons (w_var 2 rfl (wa_nil ⟨many, t, p, rfl, ok.w, ok.m4, ok.pr, ok.z, _, _, _, _, rfl, rfl, w_int (xd_lst (i := 0) (d := tN ((List.range t.many).map (cnt t p))) (by rw [List.getElem?_map, ok.nums]; rfl) r)⟩)))))))))))
/-! ### readings_of -/
def spOf : Spf := fun ds R => ∃ (many : Nat) (t : Tb) (p : Pr), ds = [t.enc, p.enc, dicD []] ∧ RdOk many t p ∧ cntS t p ≤ 300 ∧ R (.list ((srt tN (allRows t p)).map tN))
abbrev n17 : List Str := ["table", "program", "pins", "counted", "index"]
theorem sc17 : FnScope n17 ["table", "program", "pins"] (defScope (top 17)) := ⟨rfl, rfl, rfl, by decide +kernel, rfl, by decide +kernel, by decide +kernel⟩
theorem ok_of (T : Tx K mg) (hM : ∃ tk, mg "MOST_READINGS" = some (.int 5000 tk)) : FnN P w K mg base 26 "readings_of" ["table", "program", "pins"] (spD K spOf) := by
  obtain ⟨f, fd, F, hmg⟩ := T.top (x := "readings_of") (j := 17) 7
  obtain ⟨tk, hM⟩ := hM
  refine fnD_of F hmg sc17 (fun _ _ _ _ _ _ us hl => match us, hl with | [_, _, _], _ => rfl) (fun ds R h => by obtain ⟨_, _, _, rfl, _⟩ := h; rfl) fun cdv A outer s H E ds R hr h => ?_
  obtain ⟨many, t, p, rfl, ok, hle, r⟩ := h
  have hdep : p.depth ≤ 10 := Nat.le_trans p.depth_le_size ok.z
  have hm4 : t.many ≤ 4 := by rw [ok.w.m]; exact ok.m4
  have es : ((List.range t.many).map (cnt t p)).sum = cntS t p := rfl
  have el : restR t p (List.range t.many) = srt tN (allRows t p) := ordR_all ok.w ok.pr
  have ell : (restR t p (List.range t.many)).length = cntS t p := restR_len ok.w ok.pr _
  refine wss_cons (ws_setV 3 sc17.nd (wv_make (ok_init T) hr (by decide) (wa_cons (w_var 0 rfl (wa_cons (w_var 1 rfl (wa_cons (w_var 2 rfl (wa_nil ⟨many, t, p, rfl, ok.w, ok.m4, ok.pr, ok.z, fun _ => ?_⟩)))))))))
  refine wss_cons (ws_if (wt_cmp (w_meth0 T 3 (ok_whole T) hr (by decide) rfl ⟨numsL t p, _, rfl, rfl, ok.nums, w_glob hM (od_gt ⟨_, rfl, ite_dec (fun c => ?_) fun _ => wss_nil fun _ => ?_⟩)⟩)))
  · have c' : (5000 : Int) < ((cntS t p : Nat) : Int) := c
    omega
  refine wss_one (ws_ret (w_lcN 4 [("index", 4)] sc17.nd (blkOk_by (N := n17) (sc := defScope (top 17)) (by decide +kernel)) (idle1 rfl) (wi_rangeN T (w_meth0 T 3 (ok_whole T) hr (by decide) rfl ⟨numsL t p, _, rfl, rfl, ok.nums, _, rfl, by rw [es]; omega, ?_⟩))))
  rw [es]
  refine lcq_map (List.range (cntS t p)) dN (fun i => tN ((restR t p (List.range t.many)).getD i [])) (slt (by rw [List.length_range]; omega)) (fun i hi => ?_) ?_
  · rw [List.mem_range] at hi
    refine ⟨_, rfl, fun s H C cl fp => w_meth T 3 (ok_rest T 10) hr (by decide) rfl (wa_cons (w_int (wa_cons (w_listRange T rfl (w_ix (w_var 0 rfl (w_int (xd_tup (i := 0) rfl ⟨t.many, rfl, by omega, wa_cons (w_var 4 rfl (wa_nil ⟨many, t, p, p, 0, List.range t.many, i, rfl, rfl, rfl, rfl, ⟨ok.w, ok.pr, ok.z, Pr.subs_zero p⟩, hdep, fun k hk => by rw [← ok.w.m]; exact List.mem_range.mp hk, by rw [List.length_range]; omega, by rw [ell]; exact hi, by rw [ell]; exact hle, rfl⟩))⟩))))))))⟩
  · have e2 : (List.range (cntS t p)).map (fun i => tN ((restR t p (List.range t.many)).getD i [])) = (srt tN (allRows t p)).map tN := by
      rw [← el]
      refine List.ext_getElem? fun i => ?_
      rw [List.getElem?_map, List.getElem?_map]
      by_cases hi : i < cntS t p
      · rw [List.getElem?_range hi, getD_of (by rw [ell]; exact hi) []]
        rfl
      · rw [List.getElem?_eq_none (by rw [List.length_range]; omega), List.getElem?_eq_none (by rw [ell]; omega)]
        rfl
    rw [e2]
    exact r
end
end K3
end

section
set_option Elab.async false
set_option linter.all false
set_option autoImplicit false
set_option maxRecDepth 100000
set_option maxHeartbeats 1000000
/-! for i, (a, b) in ..; unread_node -/
namespace K3
open PySem PySem.Spec PyProof.Rows L2
/-- what an item (i, (a, b)) does to the store -/
def inN {K : PySem.W.Frag} (i j k : Nat) (d : D) (S S' : Sto K) : Prop := ∃ x a b, d = .tuple [x, .tuple [a, b]] ∧ S' = ((S.set i (.dat x)).set j (.dat a)).set k (.dat b)
section
variable {X : Cx} {S : Sto X.K} {iter : Expr} {x y z : Str} {p1 p2 p3 p4 p5 pos : Pos} {k1 k2 : Nat}
theorem ws_forN2 {D0 : De X.K} {body : List Stmt} {p : Bool} (i j k : Nat) (nd : X.N.Nodup)
    (h : WI X (.Tuple [.Name x p1, .Tuple [.Name y p2, .Name z p3] k1 p4] k2 p5) iter S p fun ds => ∃ Pv : Nat → Sto X.K → Prop, Pv 0 S ∧ (∀ (n : Nat) (d : D) (S' : Sto X.K), ds[n]? = some d → S'.length = S.length → Pv n S' →
      ∃ S2, inN i j k d S' S2 ∧ WSs X body S2 { D0 with nx := Pv (n + 1), ct := Pv (n + 1), bk := D0.nx }) ∧ ∀ S', S'.length = S.length → Pv ds.length S' → D0.nx S')
    (hc : X.calm = true := by rfl) (hp : PassesOwn (model X.prog X.w) X.A X.env X.xe := by exact PassesOwn.never)
    (hN : X.N[i]? = some x := by rfl) (hx : Loc X.env.scope x := by first | exact Or.inl rfl | exact Or.inr rfl) (hf : X.fn x = true ∨ X.env.scope.names.lookup x = some .local := by first | exact .inl rfl | exact .inr rfl)
    (hN2 : X.N[j]? = some y := by rfl) (hy : Loc X.env.scope y := by first | exact Or.inl rfl | exact Or.inr rfl) (hf2 : X.fn y = true ∨ X.env.scope.names.lookup y = some .local := by first | exact .inl rfl | exact .inr rfl)
    (hN3 : X.N[k]? = some z := by rfl) (hz : Loc X.env.scope z := by first | exact Or.inl rfl | exact Or.inr rfl) (hf3 : X.fn z = true ∨ X.env.scope.names.lookup z = some .local := by first | exact .inl rfl | exact .inr rfl)
    (hj : (([i, j, k] : List Nat).all fun j => Nat.blt j S.length) = true := by rfl) (hsf : ∀ x, foldedSetIterable iter X.env x = pure x := by intro _; rfl)
    (hs1 : (assignEach (.Name x p1 :: [.Tuple [.Name y p2, .Name z p3] k1 p4]) X.env).map (·.2) = assign (.Name x p1) X.env :: (assignEach [.Tuple [.Name y p2, .Name z p3] k1 p4] X.env).map (·.2) := by rfl)
    (hs2 : (assignEach [.Tuple [.Name y p2, .Name z p3] k1 p4] X.env).map (·.2) = assign (.Tuple [.Name y p2, .Name z p3] k1 p4) X.env :: (assignEach [] X.env).map (·.2) := by rfl) :
    WS X (.For (.Tuple [.Name x p1, .Tuple [.Name y p2, .Name z p3] k1 p4] k2 p5) iter body [] pos) S D0 := fun ow H σ E st mt => by
  have hjs := lts hj
  have l1 := hjs i (by simp)
  have l2 := hjs j (by simp)
  have l3 := hjs k (by simp)
  have hg : PG X (.Tuple [.Name x p1, .Tuple [.Name y p2, .Name z p3] k1 p4] k2 p5) (gTup X.K 2 (gCons (gName i) (gCons (gTup X.K 2 (gNames [j, k])) gNil))) :=
    pg_tup hc (pgs_cons (pg_name nd hN hx hf) (pgs_cons (pg_tup hc (pgs1 nd hN2 hy hf2 (pgs1 nd hN3 hz hf3 pgs0))) pgs_nil hs2) hs1)
  refine PS.we (ps_for hp hc pi_W hg pss_W hsf) ?_
  refine h ow H σ _ st fun ds J ow1 H1 q st1 e1 hJ => ?_
  obtain ⟨Pv, h0, hs, hd⟩ := q
  refine ⟨fun n m σ' H' => m = ds.length - n ∧ n ≤ ds.length ∧ ∃ (S' : Sto X.K) (ow' : Addr → Nat), Pv n S' ∧ S'.length = S.length ∧ Std X.K ow' H' σ' S' ∧ Stp S.length ow1 H1 ow' H', ⟨_, rfl, Nat.zero_le _, S, ow1, h0, rfl, st1, Stp.refl _ _ _⟩, ?_⟩
  rintro n m σ' H' ⟨rfl, hi, S', ow', hP, hl, st', sp⟩
  have J' := hJ (fz ow' H') H' sp.fz pt_le n
  by_cases hlt : n < ds.length
  · obtain ⟨d, hdd⟩ : ∃ d, ds[n]? = some d := ⟨ds[n], List.getElem?_eq_getElem hlt⟩
    obtain ⟨go, yl⟩ := J'.2 d hdd
    refine .inr ⟨go, fun σ2 H2 => ∃ (S2 : Sto X.K) (ow2 : Addr → Nat), Pv (n + 1) S2 ∧ S2.length = S.length ∧ Std X.K ow2 H2 σ2 S2 ∧ Stp S.length ow1 H1 ow2 H2, fun σ2 H2 ⟨S2, ow2, a1, a2, a3, a4⟩ => ⟨ds.length - (n + 1), by omega, rfl, hlt, S2, ow2, a1, a2, a3, a4⟩, fun v H2 yy => ?_⟩
    obtain ⟨ex, yy⟩ := yl v H2 yy
    obtain ⟨S2, ⟨dx, da, db, rfl, rfl⟩, hb⟩ := hs n d S' hdd hl hP
    have st2 := st'.ext ex
    rw [← fz_nw] at yy
    have sp2 : Stp S.length ow1 H1 (nw ow' H') H2 := sp.trans (.ext ex)
    have fin : ∀ σ3, Std X.K (nw ow' H') H2 σ3 (((S'.set i (.dat dx)).set j (.dat da)).set k (.dat db)) → WSr X body { nx := fun σ2 H2 => ∃ (S2 : Sto X.K) (ow2 : Addr → Nat), Pv (n + 1) S2 ∧ S2.length = S.length ∧ Std X.K ow2 H2 σ2 S2 ∧ Stp S.length ow1 H1 ow2 H2, ct := fun σ2 H2 => ∃ (S2 : Sto X.K) (ow2 : Addr → Nat), Pv (n + 1) S2 ∧ S2.length = S.length ∧ Std X.K ow2 H2 σ2 S2 ∧ Stp S.length ow1 H1 ow2 H2, bk := E.nx, rt := E.rt } σ3 H2 := fun σ3 st3 => by
      have l3 : (((S'.set i (.dat dx)).set j (.dat da)).set k (.dat db) : Sto X.K).length = S.length := by rw [List.length_set, List.length_set, List.length_set]; exact hl
      have nxm : Mt X.K (((S'.set i (.dat dx)).set j (.dat da)).set k (.dat db) : Sto X.K).length (nw ow' H') H2 (Pv (n + 1)) (fun σ2 H2 => ∃ (S2 : Sto X.K) (ow2 : Addr → Nat), Pv (n + 1) S2 ∧ S2.length = S.length ∧ Std X.K ow2 H2 σ2 S2 ∧ Stp S.length ow1 H1 ow2 H2) := fun S4 ow4 H4 σ4 p4 l4 st4 sp4 =>
        ⟨S4, ow4, p4, l4.trans l3, st4, sp2.trans (by rw [← l3]; exact sp4)⟩
      have mt2 : Meets X.K (((S'.set i (.dat dx)).set j (.dat da)).set k (.dat db) : Sto X.K).length (nw ow' H') H2 D0 E := by rw [l3]; exact mt.step (e1.trans sp2)
      exact hb (nw ow' H') H2 σ3 _ st3 ⟨nxm, mt2.rt, mt2.nx, nxm⟩
    have two : ∀ {v1 v2 : V}, Is X.K (fz (nw ow' H') H2) v1 dx → Is X.K (fz (nw ow' H') H2) v2 (.tuple [da, db]) → (gCons (gName i) (gCons (gTup X.K 2 (gNames [j, k])) gNil)) [v1, v2] σ' H2 (WSr X body { nx := fun σ2 H2 => ∃ (S2 : Sto X.K) (ow2 : Addr → Nat), Pv (n + 1) S2 ∧ S2.length = S.length ∧ Std X.K ow2 H2 σ2 S2 ∧ Stp S.length ow1 H1 ow2 H2, ct := fun σ2 H2 => ∃ (S2 : Sto X.K) (ow2 : Addr → Nat), Pv (n + 1) S2 ∧ S2.length = S.length ∧ Std X.K ow2 H2 σ2 S2 ∧ Stp S.length ow1 H1 ow2 H2, bk := E.nx, rt := E.rt }) := fun {v1 v2} i1 i2 => by
      cases i2 with
      | @tup b us _ pb ab =>
        cases ab with
        | @cons w1 _ _ _ a1 at1 =>
          cases at1 with
          | @cons w2 _ _ _ a2 at2 =>
            cases at2
            refine ⟨v1, _, rfl, .ref b, [], rfl, ⟨b, _, rfl, (pb.mono pt_le).sq, rfl, w1, _, rfl, w2, [], rfl, rfl, rfl, fin _ ?_⟩⟩
            have s1 := st2.set (i := i) (by rw [hl]; exact l1) i1
            have s2 := s1.set (i := j) (by rw [List.length_set, hl]; exact l2) a1
            exact s2.set (i := k) (by rw [List.length_set, List.length_set, hl]; exact l3) a2
    rcases yy with yy | ⟨_, T, vs, ds', e, rfl, hT, a⟩
    · cases yy with
      | @tup b us _ pb ab =>
        cases ab with
        | @cons w1 _ _ _ a1 at1 =>
          cases at1 with
          | @cons w2 _ _ _ a2 at2 =>
            cases at2
            exact ⟨b, _, rfl, (pb.mono pt_le).sq, rfl, two a1 a2⟩
    · cases e
      cases a with
      | @cons w1 _ _ _ a1 at1 =>
        cases at1 with
        | @cons w2 _ _ _ a2 at2 =>
          cases at2
          exact ⟨T, _, rfl, SqT.of hT, rfl, two a1 a2⟩
  · have e : n = ds.length := by omega
    subst e
    exact .inl ⟨J'.1 (Nat.le_refl _), mt.nx S' ow' H' σ' (hd S' hl hP) hl st' (e1.trans sp)⟩
end
end K3
end

section
set_option Elab.async false
set_option linter.all false
set_option autoImplicit false
set_option maxRecDepth 100000
set_option maxHeartbeats 1000000
/-! unread_node -/
namespace K3
open PySem PySem.Spec PyProof.Rows L2
def optN : Option Nat → D
  | some n => dN n
  | none => .none
section
variable {P : Program} {w : World} {K : PySem.W.Frag} {mg : Str → Option Value} {base : Heap}
def spUnread : Spf := fun ds R => ∃ (many : Nat) (t : Tb) (p : Pr), ds = [t.enc, p.enc] ∧ RdOk many t p ∧ R (optN (unread t p))
abbrev n18 : List Str := ["table", "program", "counted", "sums", "node", "numbers", "sign", "tops", "top"]
theorem sc18 : FnScope n18 ["table", "program"] (defScope (top 18)) := ⟨rfl, rfl, rfl, by decide +kernel, rfl, by decide +kernel, by decide +kernel⟩
theorem sumsL_len (t : Tb) (p : Pr) : (sumsL t p).length = p.size := by rw [sumsL, List.length_map, Pr.subs_len]
theorem sums_nums (t : Tb) (p : Pr) : (numsL t p).map List.sum = sumsL t p := by
  unfold numsL sumsL
  rw [List.map_map]
  rfl
theorem ok_unread (T : Tx K mg) : FnN P w K mg base 14 "unread_node" ["table", "program"] (spD K spUnread) := by
  obtain ⟨f, fd, F, hmg⟩ := T.top (x := "unread_node") (j := 18) 8
  refine fnD_of F hmg sc18 (fun _ _ _ _ _ _ us hl => match us, hl with | [_, _], _ => rfl) (fun ds R h => by obtain ⟨_, _, _, rfl, _⟩ := h; rfl) fun cdv A outer s H E ds R hr h => ?_
  obtain ⟨many, t, p, rfl, ok, r⟩ := h
  have es : ((List.range t.many).map (cnt t p)).sum = cntS t p := rfl
  have nl := nodes_length p
  have zz := ok.z
  refine wss_cons (ws_setV 2 sc18.nd (wv_make (ok_init T) hr (by decide) (wa_cons (w_var 0 rfl (wa_cons (w_var 1 rfl (wa_cons (w_dnew (wa_nil ⟨many, t, p, rfl, ok.w, ok.m4, ok.pr, ok.z, fun _ => ?_⟩)))))))))
  refine wss_cons (ws_if (wt_cmp (w_meth0 T 2 (ok_whole T) hr (by decide) rfl ⟨numsL t p, _, rfl, rfl, ok.nums, w_int (od_gt ⟨_, rfl, ite_dec (fun c => ?_) fun c => wss_nil fun _ => ?_⟩)⟩)))
  · have c' : 0 < cntS t p := Int.ofNat_lt.mp c
    refine wss_one (ws_ret (w_none ?_))
    have e : unread t p = none := by
      unfold unread
      rw [if_pos c']
    rw [e] at r
    exact r
  have c' : ¬ 0 < cntS t p := fun z => c (Int.ofNat_lt.mpr z)
  have eu : unread t p = (List.range p.size).find? fun n => decide ((sumsL t p).getD n 0 = 0) && ((nodes p).getD n (none, [])).2.all fun m => decide ((sumsL t p).getD m 0 > 0) := by
    unfold unread
    rw [if_neg c']
  refine wss_cons (ws_set 3 sc18.nd (w_lcN 5 [("numbers", 5)] sc18.nd (blkOk_by (N := n18) (sc := defScope (top 18)) (by decide +kernel)) (idle1 rfl) (wi_list (w_at T 2 rfl T.sNumbers rfl ⟨_, rfl, ?_⟩))))
  refine lcq_map (numsL t p) tN (fun r => dN r.sum) (slt (by rw [numsL_len]; omega)) (fun q _ => ⟨_, rfl, fun s H C cl fp => w_sumN T (w_var 5 rfl ⟨q, .inr rfl, rfl⟩)⟩) (fun _ => ?_)
  have e1 : (numsL t p).map (fun r => dN r.sum) = (sumsL t p).map dN := by
    rw [← sums_nums, List.map_map]
    rfl
  rw [e1]
  refine wss_cons (ws_forN2 4 6 7 sc18.nd (wi_enumL rfl T.free (w_at T 2 rfl T.sNodes rfl ⟨_, rfl, ?_⟩)))
  have ez : ((nodes p).map Nd.enc).zipIdx.map (fun p => PyData.tuple [.int (p.2 : Int), p.1]) = (nodes p).zipIdx.map fun p => PyData.tuple [dN p.2, Nd.enc p.1] := by
    rw [List.zipIdx_map, List.map_map]
    rfl
  rw [ez]
  refine ⟨fun n S' => (∀ j, j < n → (decide ((sumsL t p).getD j 0 = 0) && ((nodes p).getD j (none, [])).2.all fun m => decide ((sumsL t p).getD m 0 > 0)) = false) ∧ ∃ c4 c6 c7 : Sv K, S' = [.dat t.enc, .dat p.enc, .obj t.enc (ndsD (nodes p)) (numD' (numsL t p)), .dat (.list ((sumsL t p).map dN)), c4, .no, c6, c7, .no], ⟨fun j hj => by omega, .no, .no, .no, rfl⟩, fun n d S' hd hl hs => ?_, fun S' hl hs => fun _ => ?_⟩
  · obtain ⟨hb, c4, c6, c7, rfl⟩ := hs
    rw [List.getElem?_map] at hd
    cases z : (nodes p).zipIdx[n]? with
    | none => rw [z] at hd; cases hd
    | some pr =>
      obtain ⟨x, ix⟩ := pr
      rw [z] at hd
      obtain rfl := Option.some.inj hd
      rw [List.getElem?_zipIdx] at z
      cases z2 : (nodes p)[n]? with
      | none => rw [z2] at z; cases z
      | some x' =>
        rw [z2] at z
        simp only [Option.map_some, Option.some.injEq, Prod.mk.injEq, Nat.zero_add] at z
        obtain ⟨rfl, rfl⟩ := z
        have hn : n < p.size := by
          have := (List.getElem?_eq_some_iff.mp z2).1
          rwa [nl] at this
        obtain ⟨q, hq⟩ : ∃ q, p.subs[n]? = some q := ⟨_, List.getElem?_eq_getElem (by rw [Pr.subs_len]; exact hn)⟩
        obtain ⟨x2, nx⟩ := Pr.node_at p n q hq
        have ex : x' = x2 := Option.some.inj (z2.symm.trans nx.get)
        subst ex
        have eg : (nodes p).getD n (none, []) = x' := by rw [List.getD_eq_getElem?_getD, z2]; rfl
        have ht : ∀ m, m ∈ x'.2 → m < p.size := fun m hm => by
          obtain ⟨i, hi⟩ := List.getElem?_of_mem hm
          obtain ⟨_, q', h1, _⟩ := nx.tops i m hi
          have := (List.getElem?_eq_some_iff.mp h1).1
          rwa [Pr.subs_len] at this
        have hl2 := nodes_tops p x' (List.mem_of_getElem? z2)
        refine ⟨_, ⟨dN n, _, tN x'.2, rfl, rfl⟩, wss_one (ws_if (wt_pw (ww_and (wt_cmp (w_ix (w_var 3 rfl (w_var 4 rfl (xd_lst (d := dN ((sumsL t p).getD n 0)) (by rw [List.getElem?_map, getD_of (by rw [sumsL_len]; exact hn) 0]; rfl) (w_int (od_eq ⟨_, rfl, ite_dec (fun c1 => ?_) fun c1 => ?_⟩))))))))))⟩
        · have c1' : (sumsL t p).getD n 0 = 0 := Int.ofNat_inj.mp c1
          refine ww_and1 (wt_val (w_all T rfl (w_lcN 8 [("top", 8)] sc18.nd (blkOk_by (N := n18) (sc := defScope (top 18)) (by decide +kernel)) (idle1 rfl) (wi_tup (w_var 7 rfl ⟨_, rfl, ?_⟩)))))
          refine lcq_map x'.2 dN (fun m => .bool (decide ((sumsL t p).getD m 0 > 0))) (slt (by omega)) (fun m hm => ⟨_, rfl, fun s H C cl fp => w_cmp (w_ix (w_var 3 rfl (w_var 8 rfl (xd_lst (d := dN ((sumsL t p).getD m 0)) (by rw [List.getElem?_map, getD_of (by rw [sumsL_len]; exact ht m hm) 0]; rfl) (w_int (od_gt ?_))))))⟩) ⟨x'.2.map fun m => decide ((sumsL t p).getD m 0 > 0), by rw [List.map_map]; rfl, _, rfl, ?_⟩
          · exact congrArg PyData.bool (decide_eq_decide.mpr Int.ofNat_lt)
          · refine ite_b (fun c2 => ?_) fun c2 => ?_
            · refine wss_one (ws_ret (w_var 4 rfl ?_))
              rw [eu, find_range _ hn (by rw [eg, decide_eq_true c1', Bool.true_and]; rw [List.all_map] at c2; exact c2) hb] at r
              exact r
            · refine wss_nil ⟨fun j hj => ?_, .dat (dN n), _, .dat (tN x'.2), rfl⟩
              by_cases e : j = n
              · subst e
                rw [eg]
                rw [List.all_map] at c2
                have c3 : (x'.2.all fun m => decide ((sumsL t p).getD m 0 > 0)) = false := c2
                rw [c3, Bool.and_false]
              · exact hb j (by omega)
        · have c1' : ¬ (sumsL t p).getD n 0 = 0 := fun z => c1 (by rw [z]; rfl)
          refine wss_nil ⟨fun j hj => ?_, .dat (dN n), _, .dat (tN x'.2), rfl⟩
          by_cases e : j = n
          · subst e
            rw [decide_eq_false c1', Bool.false_and]
          · exact hb j (by omega)
  · obtain ⟨hb, c4, c6, c7, rfl⟩ := hs
    refine wss_one (ws_ret (w_none ?_))
    rw [List.length_map, List.length_zipIdx, nl] at hb
    rw [eu, find_range_none _ hb] at r
    exact r
end
end K3
end

section
set_option Elab.async false
set_option linter.all false
set_option autoImplicit false
set_option maxRecDepth 100000
set_option maxHeartbeats 1000000
/-! {n: e for n in ns}, ns numbers, each once; a < b of data. -/
namespace K3
open PySem PySem.Spec PyProof.Rows L2
section
variable {X : Cx} {S : Sto X.K} {Q : D → Prop} {kx vx iter : Expr} {scope : Scope} {pos tp : Pos} {x : Str}
theorem w_dcN (j : Nat) (own : List (Str × Nat)) (nd : X.N.Nodup) (ok : BlkOk X.N X.env.scope scope own) (hid : Idle S (own.map (·.2)))
    (h : WI X (.Name x tp) iter S true fun ds => ∃ (ns : List Nat) (g : Nat → D), ds = ns.map dN ∧ ns.Nodup ∧ ns.length ≤ 1000 ∧ (∀ n, n ∈ ns → ∀ (s : Shared) (H : Hp) (C : Addr) (cl : List (Str × Addr)) (fp : List Addr),
      W (Bk X scope s H C cl fp) kx ((wipeS S (own.map (·.2))).set j (.dat (dN n))) (fun d => d = dN n) ∧ W (Bk X scope s H C cl fp) vx ((wipeS S (own.map (·.2))).set j (.dat (dN n))) (fun d => d = g n)) ∧ Q (dicD (ns.map fun (n : Nat) => (((n : Nat) : Int), g n))))
    (hc : X.calm = true := by rfl) (hN : X.N[j]? = some x := by rfl) (hx : scope.names.lookup x = some .local := by rfl)
    (hj : Nat.blt j S.length = true := by rfl) (hv : (own.map (·.2)).contains j = true := by rfl) (hs : ∀ x, foldedSetIterable iter X.env x = pure x := by intro _; rfl) :
    W X (.DictComp kx vx [⟨.Name x tp, iter, [], 0⟩] scope pos) S Q := fun ow H σ Q' st k => by
  have hjv : j ∈ own.map (·.2) := by simpa using hv
  have hjS : j < S.length := Nat.le_of_ble_eq_true hj
  refine we_lock (PE.we (pe_dc (g := gName j) (tt := fun (σ : L2.St) (H : Hp) (Q : Bool → Hp → Prop) => ∀ (s : Shared) (H0 : Hp) (C : Addr) (cl : List (Str × Addr)) (fp : List Addr), WTsr (Bk X scope s H0 C cl fp) [] σ H Q)
    (tk := fun (σ : L2.St) (H : Hp) (Q : VK) => ∀ (s : Shared) (H0 : Hp) (C : Addr) (cl : List (Str × Addr)) (fp : List Addr), WE (Bk X scope s H0 C cl fp) kx σ H Q)
    (tv := fun (σ : L2.St) (H : Hp) (Q : VK) => ∀ (s : Shared) (H0 : Hp) (C : Addr) (cl : List (Str × Addr)) (fp : List Addr), WE (Bk X scope s H0 C cl fp) vx σ H Q) hc nd pi_W ok (fun s H C cl fp => pg_name (i := j) nd hN (.inl (bkl hx)) (.inr (bkl hx)))
    (fun s H C cl fp => ⟨fun pins s2 σ2 H2 Q I q => (q s H C cl fp).r pins s2 I⟩) (fun s H C cl fp => ⟨fun pins s2 σ2 H2 Q I q => (q s H C cl fp).r pins s2 I⟩) (fun s H C cl fp => ⟨fun pins s2 σ2 H2 Q I q => (q s H C cl fp).r pins s2 I⟩) hs)
    (Q := fun v H' => ∃ (A : Addr) (kvs : List (Key × V)) (ns : List Nat) (g : Nat → K3.D) (ow' : Addr → Nat), v = .ref A ∧ Q (dicD (ns.map fun (n : Nat) => (((n : Nat) : Int), g n))) ∧ H A = none ∧ H' A = some (.dK kvs) ∧ ow' A = S.length + 1 ∧ Std X.K ow' H' σ S ∧ Stp S.length ow H ow' H' ∧ IsK X.K (fz ow' H') kvs (ns.map fun (n : Nat) => (((n : Nat) : Int), g n))) ?_) ?_
  · refine h ow H σ _ st fun ds J ow1 H1 q st1 e1 hJ A hA => ?_
    obtain ⟨ns, g, rfl, hnd, hnl, hg, q⟩ := q
    let en : Nat → Int × K3.D := fun n => (((n : Nat) : Int), g n)
    let Wv : Nat → Hp → Prop := fun i H' => ∃ (kvs : List (Key × V)) (ow' : Addr → Nat), Stp S.length ow1 H1 ow' H' ∧ Std X.K ow' H' (L2.wipe σ (own.map (·.2))) (wipeS S (own.map (·.2))) ∧ H' A = some (.dK kvs) ∧ ow' A = S.length + 1 ∧ IsK X.K (fz ow' H') kvs ((ns.take i).map en)
    have w0 : Wv 0 (upd H1 A (.dK [])) := by
      have ex : Ex H1 (upd H1 A (.dK [])) := Evl.Ex.new hA
      refine ⟨[], zw S.length ow1 H1, .zone ex, ?_, upd_same, zw_new hA, .nil⟩
      exact (st1.zone ex).wipe _
    refine ⟨fun i mm H' => mm = ns.length - i ∧ i ≤ ns.length ∧ Wv i H', ⟨_, rfl, Nat.zero_le _, w0⟩, ?_⟩
    rintro i mm H' ⟨rfl, hi, kvs, ow', sp, st', hA', hoA, ik⟩
    have J' := hJ (fz ow' H') H' sp.fz pt_le i
    by_cases hlt : i < ns.length
    · obtain ⟨n, hn⟩ : ∃ n, ns[i]? = some n := ⟨ns[i], List.getElem?_eq_getElem hlt⟩
      obtain ⟨go, yl⟩ := J'.2 (dN n) (by rw [List.getElem?_map, hn]; rfl)
      refine .inr ⟨go, Wv (i + 1), fun H2 w => ⟨ns.length - (i + 1), by omega, rfl, hlt, w⟩, fun y H2 hy => ?_⟩
      obtain ⟨ex, yy⟩ := yl y H2 hy
      have ey : y = .int n := by
        rcases yy with yy | ⟨h0, _⟩
        · cases yy
          rfl
        · cases h0
      subst ey
      have st2 : Std X.K (nw ow' H') H2 (L2.wipe σ (own.map (·.2))) (wipeS S (own.map (·.2))) := st'.ext ex
      have sp2 : Stp S.length ow1 H1 (nw ow' H') H2 := sp.trans (.ext ex)
      have hA2 : H2 A = some (.dK kvs) := ex _ _ hA'
      have hoA2 : nw ow' H' A = S.length + 1 := (nw_old hA').trans hoA
      have ik2 : IsK X.K (fz (nw ow' H') H2) kvs ((ns.take i).map en) := ik.mono (fz_le ex)
      have sg : ∀ m, m ∉ own.map (·.2) → ((L2.wipe σ (own.map (·.2))).set j (some (V.int n)))[m]? = (L2.wipe σ (own.map (·.2)))[m]? := fun m hm => by
        rw [List.getElem?_set_ne]
        intro c
        rw [← c] at hm
        exact hm hjv
      refine ⟨wipe_set (by rw [List.length_set, wipe_length]) sg, fun s H0 C cl fp => PTs.we pts_nil ?_⟩
      unfold tYes
      dsimp only
      rw [if_pos rfl]
      intro s' H0' C' cl' fp'
      have st3 : Std X.K (nw ow' H') H2 ((L2.wipe σ (own.map (·.2))).set j (some (V.int n))) ((wipeS S (own.map (·.2))).set j (.dat (dN n))) := st2.set (by rw [wipeS_len]; exact hjS) (.int _)
      have l2 : ((wipeS S (own.map (·.2))).set j (.dat (dN n)) : Sto X.K).length = S.length := by rw [List.length_set, wipeS_len]
      have back : ∀ {ow3 : Addr → Nat} {H3 : Hp}, Std X.K ow3 H3 ((L2.wipe σ (own.map (·.2))).set j (some (V.int n))) ((wipeS S (own.map (·.2))).set j (.dat (dN n))) → Std X.K ow3 H3 (L2.wipe σ (own.map (·.2))) (wipeS S (own.map (·.2))) := fun {ow3 H3} st3' => by
        refine ⟨by rw [wipeS_len, wipe_length]; exact st.len, fun i' s' h' => ?_⟩
        by_cases mi : i' ∈ own.map (·.2)
        · rw [wipeS_no mi h']
          exact trivial
        · have q := st3'.sl i' s' (by rw [List.getElem?_set_ne (fun c : j = i' => mi (c ▸ hjv))]; exact h')
          rw [sg i' mi] at q
          exact q
      refine (hg n (List.mem_of_getElem? hn) s' H0' C' cl' fp').1 (nw ow' H') H2 _ _ st3 fun d v ow3 H3 qd st4 sp4 i4 => ?_
      subst qd
      cases i4
      intro s2' H02' C2' cl2' fp2'
      refine (hg n (List.mem_of_getElem? hn) s2' H02' C2' cl2' fp2').2 ow3 H3 _ _ st4 fun d' v' ow4 H4 qd st5 sp5 i5 => ?_
      subst qd
      rw [l2] at sp4 sp5
      have sp6 := sp4.trans sp5
      obtain ⟨b1, b2⟩ := sp6.le hA2 (.inr (by omega))
      have hoA4 : ow4 A = S.length + 1 := b2.trans hoA2
      have lk : kvs.length = (ns.take i).length := by rw [ik.length, List.length_map]
      rw [List.length_take] at lk
      refine ⟨kvs, Sum.inl (n : Int), rfl, b1, slt (by omega), putK kvs (Sum.inl (n : Int)) v', ow4, ?_, ?_, upd_same, hoA4, ?_⟩
      · exact (sp2.trans sp6).updZ hA hoA4
      · refine Std.updZ (back st5) ?_
        rw [wipeS_len]
        exact hoA4
      · rw [fz_updZ hoA4]
        have z := (ik2.mono sp6.fz).put (n : Int) i5
        have fresh : (n : Int) ∉ keysD ((ns.take i).map en) := fun c => by
          unfold keysD at c
          rw [List.map_map] at c
          obtain ⟨m, hm, em⟩ := List.mem_map.mp c
          have em' : m = n := Int.ofNat_inj.mp em
          rw [em'] at hm
          obtain ⟨i', hi'⟩ := List.getElem?_of_mem hm
          rw [List.getElem?_take] at hi'
          split at hi'
          · rename_i lt
            have h1 : i' < ns.length := (List.getElem?_eq_some_iff.mp hi').1
            rw [List.getElem?_eq_getElem h1] at hi'
            rw [List.getElem?_eq_getElem hlt] at hn
            have := (List.getElem_inj hnd).mp ((Option.some.inj hi').trans (Option.some.inj hn).symm)
            omega
          · cases hi'
        rw [putD_new fresh] at z
        rw [List.take_add_one, hn, List.map_append]
        exact z
    · have e : i = ns.length := by omega
      subst e
      rw [List.take_length] at ik
      exact .inl ⟨J'.1 (by rw [List.length_map]; exact Nat.le_refl _), A, kvs, ns, g, ow', rfl, q, e1.dm A hA, hA', hoA, st1.unwipe hid sp st', e1.trans sp, ik⟩
  · rintro v H' ⟨A, kvs, ns, g, ow', rfl, q, hA, hA', hoA, st', sp, ik⟩
    refine ⟨A, .dK kvs, hA', trivial, fun od => ?_⟩
    let ow2 : Addr → Nat := fun b => if b = A then 0 else ow' b
    have w1 : ∀ b, b ≠ A → ow2 b = ow' b := fun b h => if_neg h
    have h2 : ∀ b, b ≠ A → upd H' A (.frz od (.dK kvs)) b = H' b := fun b h => upd_ne h
    have pe : ∀ m b o, m ≠ S.length + 1 → pt ow' m H' b = some o → pt ow2 m (upd H' A (.frz od (.dK kvs))) b = some o := fun m b o hm hb => by
      obtain ⟨y1, y2⟩ := pt_some hb
      have nb : b ≠ A := fun c => hm (by rw [← y2, c, hoA])
      exact pt_of ((w1 b nb).trans y2) ((h2 b nb).trans y1)
    have fe : Ex (fz ow' H') (fz ow2 (upd H' A (.frz od (.dK kvs)))) := fun b o hb => pe 0 b o (by omega) hb
    have st2 : Std X.K ow2 (upd H' A (.frz od (.dK kvs))) σ S := ⟨st'.len, fun i s hi => s.mono fe (fun b o hb => pe (i + 1) b o (by have := (List.getElem?_eq_some_iff.mp hi).1; omega) hb) (st'.sl i s hi)⟩
    have sp2 : Stp S.length ow H ow2 (upd H' A (.frz od (.dK kvs))) := by
      refine ⟨sp.fz.trans fe, fun m hm b o hb => ?_, fun b hb => ?_⟩
      · have nb : b ≠ A := fun c => by
          have := (pt_some hb).1
          rw [c, hA] at this
          cases this
        obtain ⟨y1, y2⟩ := pt_some (sp.fr m hm b o hb)
        exact pt_of ((w1 b nb).trans y2) ((h2 b nb).trans y1)
      · by_cases c : b = A
        · rw [c, upd_same] at hb
          cases hb
        · rw [h2 b c] at hb
          exact sp.dm b hb
    exact k _ _ ow2 _ q st2 sp2 (.dic ⟨od, pt_of (if_pos rfl) upd_same⟩ (ik.mono fe))
/-- a < b -/
theorem od_ltD {d e : D} (hu : X.A.units + 64 < cLine) (nd : d.hasDict = false) (ne : e.hasDict = false) (al : PySem.W.alike d e = true) (nn : d ≠ .none) (dd : min d.depth e.depth ≤ 60) (q : Q (.bool (PySem.W.dataLt d e))) : OD X (compareOp .Lt) d e Q := fun F H x y Q' f i1 i2 k pins s σ v u I rx ry => by
  obtain ⟨as, r1⟩ := Dp.reads I _ x v ((i1.mono f).dp nd) rx
  obtain ⟨bs, r2⟩ := Dp.reads I _ y u ((i2.mono f).dp ne) ry
  refine PySem.W.rcLt_alike d e X.A s v u as bs r1 r2 al nn (by omega) _ _ _ _ ?_
  exact ⟨.bl (PySem.W.dataLt d e), H, I, rfl, k.bool q⟩
end
end K3
end

section
set_option Elab.async false
set_option linter.all false
set_option autoImplicit false
set_option maxRecDepth 100000
set_option maxHeartbeats 1000000
/-! Least programs, plainly. -/
namespace K3
open PySem PySem.Spec PyProof.Rows L2
namespace Pr
mutual
/-- the signs in order -/
def pre : Pr → List Nat
  | .hole => []
  | .node s ps => s :: pres ps
def pres : List Pr → List Nat
  | [] => []
  | p :: ps => pre p ++ pres ps
end
mutual
theorem pre_len : ∀ p : Pr, p.full → p.pre.length = p.size
  | .hole, h => by rw [full] at h; exact h.elim
  | .node s ps, h => by
    rw [full] at h
    rw [pre, size, List.length_cons, pres_len ps h]
    omega
theorem pres_len : ∀ ps : List Pr, fulls ps → (pres ps).length = sizes ps
  | [], _ => by rw [pres, sizes]; rfl
  | p :: ps, h => by
    rw [fulls] at h
    rw [pres, sizes, List.length_append, pre_len p h.1, pres_len ps h.2]
end
mutual
theorem pre_lt {σ : List Nat} : ∀ p : Pr, p.AllS (fun s ps => σ[s]? = some ps.length) → ∀ s, s ∈ p.pre → s < σ.length
  | .hole, _, s, m => by rw [pre] at m; cases m
  | .node s ps, h, x, m => by
    rw [AllS] at h
    rw [pre] at m
    rcases List.mem_cons.mp m with e | m
    · rw [e]
      exact (List.getElem?_eq_some_iff.mp h.1).1
    · exact pres_lt ps h.2 x m
theorem pres_lt {σ : List Nat} : ∀ ps : List Pr, AllSs (fun s ps => σ[s]? = some ps.length) ps → ∀ s, s ∈ pres ps → s < σ.length
  | [], _, s, m => by rw [pres] at m; cases m
  | p :: ps, h, x, m => by
    rw [AllSs] at h
    rw [pres] at m
    rcases List.mem_append.mp m with m | m
    · exact pre_lt p h.1 x m
    · exact pres_lt ps h.2 x m
end
mutual
theorem alike_pr : ∀ p q : Pr, p.full → q.full → PySem.W.alike p.enc q.enc = true
  | .hole, _, h, _ => by rw [full] at h; exact h.elim
  | .node _ _, .hole, _, h => by rw [full] at h; exact h.elim
  | .node s ps, .node s' ps', h, h' => by
    rw [full] at h h'
    rw [enc, enc, PySem.W.alike, PySem.W.alikeAll, alike_prs ps ps' h h']
    rfl
theorem alike_prs : ∀ ps qs : List Pr, fulls ps → fulls qs → PySem.W.alikeAll (encs ps) (encs qs) = true
  | [], _, _, _ => by rw [encs, PySem.W.alikeAll]
  | _ :: _, [], _, _ => by rw [encs, encs, PySem.W.alikeAll]; all_goals (intros; nofun)
  | p :: ps, q :: qs, h, h' => by
    rw [fulls] at h h'
    rw [encs, encs, PySem.W.alikeAll, alike_pr p q h.1 h'.1, alike_prs ps qs h.2 h'.2]
    rfl
end
mutual
theorem pr_noDict : ∀ p : Pr, p.enc.hasDict = false
  | .hole => by rw [enc, PyData.hasDict]; all_goals (intros; nofun)
  | .node s ps => by
    rw [enc, PyData.hasDict, PyData.hasDictAll, prs_noDict ps]
    rfl
theorem prs_noDict : ∀ ps : List Pr, PyData.hasDictAll (encs ps) = false
  | [] => by rw [encs, PyData.hasDictAll]
  | p :: ps => by rw [encs, PyData.hasDictAll, pr_noDict p, prs_noDict ps]; rfl
end
mutual
theorem enc_depth : ∀ p : Pr, p.enc.depth ≤ p.depth
  | .hole => by rw [enc, PyData.depth]; exact Nat.zero_le _; all_goals (intros; nofun)
  | .node s ps => by
    have := encs_depth ps
    rw [enc, PyData.depth, PyData.depthAll, depth]
    show max 0 _ + 1 ≤ _
    omega
theorem encs_depth : ∀ ps : List Pr, PyData.depthAll (encs ps) ≤ depths ps
  | [] => by rw [encs, PyData.depthAll, depths]; exact Nat.le_refl _
  | p :: ps => by
    have h1 := enc_depth p
    have h2 := encs_depth ps
    rw [encs, PyData.depthAll, depths]
    omega
end
/-- a first difference, less -/
def Df (a b : List Nat) : Prop := ∃ c x y u v, a = c ++ x :: u ∧ b = c ++ y :: v ∧ x < y
theorem Df.cons {a b : List Nat} (h : Df a b) (s : Nat) : Df (s :: a) (s :: b) := by
  obtain ⟨c, x, y, u, v, rfl, rfl, lt⟩ := h
  exact ⟨s :: c, x, y, u, v, rfl, rfl, lt⟩
theorem Df.app {a b : List Nat} (h : Df a b) (r r' : List Nat) : Df (a ++ r) (b ++ r') := by
  obtain ⟨c, x, y, u, v, rfl, rfl, lt⟩ := h
  exact ⟨c, x, y, u ++ r, v ++ r', by simp, by simp, lt⟩
theorem Df.pre {a b : List Nat} (h : Df a b) (c : List Nat) : Df (c ++ a) (c ++ b) := by
  obtain ⟨d, x, y, u, v, rfl, rfl, lt⟩ := h
  exact ⟨c ++ d, x, y, u, v, by simp, by simp, lt⟩
theorem toks_node (s : Nat) (ps : List Pr) : PySem.W.keyToks (Pr.node s ps).enc = .inl 1 :: .inl (s : Int) :: PySem.W.keyToksAll (encs ps) := by
  rw [enc, PySem.W.keyToks, PySem.W.toks_all_cons, PySem.W.keyToks]
  rfl
mutual
theorem df_pr {σ : List Nat} : ∀ (p q : Pr), PrOk σ p → PrOk σ q → ∀ r r', PyProof.Rows.lexLt itemOrd (PySem.W.keyToks p.enc ++ r) (PySem.W.keyToks q.enc ++ r') = true → Df p.pre q.pre ∨ (p = q ∧ PyProof.Rows.lexLt itemOrd r r' = true)
  | .hole, _, h, _, _, _, _ => absurd h.2 (by rw [full]; exact id)
  | .node _ _, .hole, _, h, _, _, _ => absurd h.2 (by rw [full]; exact id)
  | .node s ps, .node s' ps', ⟨h1, h2⟩, ⟨h1', h2'⟩, r, r', h => by
    rw [AllS] at h1 h1'
    rw [full] at h2 h2'
    rw [toks_node, toks_node, List.cons_append, List.cons_append, List.cons_append, List.cons_append, lex_self] at h
    by_cases e : s = s'
    · subst e
      rw [lex_self] at h
      have hl : ps.length = ps'.length := Option.some.inj (h1.1.symm.trans h1'.1)
      rcases df_prs ps ps' hl h1.2 h2 h1'.2 h2' r r' h with d | ⟨d1, d2⟩
      · left
        rw [Pr.pre, Pr.pre]
        exact d.cons s
      · right
        exact ⟨by rw [d1], d2⟩
    · rw [lex_diff (by simp only [ne_eq, Sum.inl.injEq]; exact fun z => e (Int.ofNat_inj.mp z))] at h
      have lt : (s : Int) < (s' : Int) := of_decide_eq_true h
      left
      rw [Pr.pre, Pr.pre]
      exact ⟨[], s, s', pres ps, pres ps', rfl, rfl, Int.ofNat_lt.mp lt⟩
theorem df_prs {σ : List Nat} : ∀ (ps qs : List Pr), ps.length = qs.length → AllSs (fun s ps => σ[s]? = some ps.length) ps → fulls ps → AllSs (fun s ps => σ[s]? = some ps.length) qs → fulls qs → ∀ r r', PyProof.Rows.lexLt itemOrd (PySem.W.keyToksAll (encs ps) ++ r) (PySem.W.keyToksAll (encs qs) ++ r') = true → Df (pres ps) (pres qs) ∨ (ps = qs ∧ PyProof.Rows.lexLt itemOrd r r' = true)
  | [], [], _, _, _, _, _, r, r', h => by
    rw [encs, PySem.W.keyToksAll, List.cons_append, List.cons_append, lex_self] at h
    exact .inr ⟨rfl, h⟩
  | [], _ :: _, h, _, _, _, _, _, _, _ => by simp at h
  | _ :: _, [], h, _, _, _, _, _, _, _ => by simp at h
  | p :: ps, q :: qs, hl, a1, f1, a2, f2, r, r', h => by
    rw [AllSs] at a1 a2
    rw [fulls] at f1 f2
    rw [encs, encs, PySem.W.toks_all_cons, PySem.W.toks_all_cons, List.cons_append, List.cons_append, lex_self, List.append_assoc, List.append_assoc] at h
    rw [pres, pres]
    rcases df_pr p q ⟨a1.1, f1.1⟩ ⟨a2.1, f2.1⟩ _ _ h with d | ⟨e1, h3⟩
    · exact .inl (d.app _ _)
    · rcases df_prs ps qs (by simpa using hl) a1.2 f1.2 a2.2 f2.2 r r' h3 with d | ⟨e2, h4⟩
      · rw [e1]
        exact .inl (d.pre _)
      · exact .inr ⟨by rw [e1, e2], h4⟩
end
/-- a number for signs below 8 -/
def cod : Nat → List Nat → Nat
  | 0, _ => 0
  | _ + 1, [] => 0
  | w + 1, d :: ds => d * 8 ^ w + cod w ds
theorem cod_lt : ∀ (w : Nat) (ds : List Nat), (∀ d, d ∈ ds → d < 8) → cod w ds < 8 ^ w
  | 0, ds, _ => by
    rw [cod]
    decide
  | w + 1, [], _ => by
    rw [cod]
    exact Nat.pow_pos (by decide)
  | w + 1, d :: ds, h => by
    have ih := cod_lt w ds fun x hx => h x (List.mem_cons_of_mem _ hx)
    have h1 := h d (List.mem_cons_self ..)
    rw [cod, Nat.pow_succ]
    have : d * 8 ^ w ≤ 7 * 8 ^ w := Nat.mul_le_mul_right _ (by omega)
    omega
theorem cod_df : ∀ (w : Nat) (c u v : List Nat) (x y : Nat), x < y → (c ++ x :: u).length ≤ w → (∀ d, d ∈ c ++ x :: u → d < 8) → cod w (c ++ x :: u) < cod w (c ++ y :: v)
  | 0, c, u, v, x, y, _, hl, _ => by
    rw [List.length_append, List.length_cons] at hl
    omega
  | w + 1, [], u, v, x, y, lt, hl, hd => by
    rw [List.nil_append, List.nil_append, cod, cod]
    have h1 := cod_lt w u fun d hx => hd d (List.mem_cons_of_mem _ hx)
    have h2 : (x + 1) * 8 ^ w ≤ y * 8 ^ w := Nat.mul_le_mul_right _ lt
    rw [Nat.succ_mul] at h2
    omega
  | w + 1, z :: c, u, v, x, y, lt, hl, hd => by
    rw [List.cons_append, List.cons_append, cod, cod]
    have := cod_df w c u v x y lt (by rw [List.cons_append, List.length_cons] at hl; omega) fun d hx => hd d (List.mem_cons_of_mem _ hx)
    omega
/-- how great a program is -/
def val (p : Pr) : Nat := p.size * 8 ^ 15 + cod 15 p.pre
def valD (p : Pr) : D := .tuple [dN p.size, p.enc]
theorem toks_val (p : Pr) : PySem.W.keyToks p.valD = .inl 1 :: .inl ((p.size : Nat) : Int) :: .inl 1 :: (PySem.W.keyToks p.enc ++ [.inl 0]) := by
  unfold valD
  rw [PySem.W.keyToks, PySem.W.toks_all_cons, PySem.W.toks_all_cons, PySem.W.keyToksAll, PySem.W.keyToks]
  rfl
theorem val_lt {σ : List Nat} (h6 : σ.length ≤ 6) {p q : Pr} (hp : PrOk σ p) (hq : PrOk σ q) (hz : q.size ≤ 15) (h : PySem.W.dataLt p.valD q.valD = true) : p.val < q.val := by
  unfold PySem.W.dataLt at h
  rw [toks_val, toks_val, lex_self] at h
  show p.size * 8 ^ 15 + cod 15 p.pre < q.size * 8 ^ 15 + cod 15 q.pre
  have hd : ∀ d, d ∈ p.pre → d < 8 := fun d hx => Nat.lt_of_lt_of_le (pre_lt p hp.1 d hx) (by omega)
  by_cases e : p.size = q.size
  · rw [e, lex_self, lex_self] at h
    rcases df_pr p q hp hq _ _ h with ⟨c, x, y, u, v, e1, e2, lt⟩ | ⟨_, h⟩
    · have := cod_df 15 c u v x y lt (by rw [← e1, pre_len p hp.2, e]; exact hz) (by rw [← e1]; exact hd)
      rw [← e1, ← e2] at this
      rw [e]
      omega
    · rw [lex_irrefl] at h
      cases h
  · rw [lex_diff (by simp only [ne_eq, Sum.inl.injEq]; exact fun z => e (Int.ofNat_inj.mp z))] at h
    have lt : ((p.size : Nat) : Int) < ((q.size : Nat) : Int) := of_decide_eq_true h
    have lt' := Int.ofNat_lt.mp lt
    have h1 := cod_lt 15 p.pre hd
    have h2 : (p.size + 1) * 8 ^ 15 ≤ q.size * 8 ^ 15 := Nat.mul_le_mul_right _ lt'
    rw [Nat.succ_mul] at h2
    omega
theorem val_big {σ : List Nat} (h6 : σ.length ≤ 6) {p : Pr} (hp : PrOk σ p) (hz : p.size ≤ 15) : p.val < 16 * 8 ^ 15 := by
  have h1 := cod_lt 15 p.pre fun d hx => Nat.lt_of_lt_of_le (pre_lt p hp.1 d hx) (by omega)
  have h2 : p.size * 8 ^ 15 ≤ 15 * 8 ^ 15 := Nat.mul_le_mul_right _ hz
  unfold val
  omega
end Pr
end K3
end

section
set_option Elab.async false
set_option linter.all false
set_option autoImplicit false
set_option maxRecDepth 100000
set_option maxHeartbeats 1000000
/-! least_programs: what the dict keeps. -/
namespace K3
open PySem PySem.Spec PyProof.Rows L2
structure Lp (many : Nat) (t : Tb) (M : List (Nat × Pr)) : Prop where
  nd : (M.map (·.1)).Nodup
  lt : ∀ x, x ∈ M → x.1 < many
  ok : ∀ x, x ∈ M → PrOk t.signs x.2
  sz : ∀ x, x ∈ M → x.2.size + 1 ≤ 2 ^ M.length
  made : ∀ x, x ∈ M → Mk t x.1
theorem Lp.len {many : Nat} {t : Tb} {M : List (Nat × Pr)} (h : Lp many t M) : M.length ≤ many := by
  have := nodup_lt_len many (M.map (·.1)) h.nd fun x hx => by
    obtain ⟨y, hy, rfl⟩ := List.mem_map.mp hx
    exact h.lt y hy
  rwa [List.length_map] at this
theorem Lp.sz15 {many : Nat} {t : Tb} {M : List (Nat × Pr)} (h : Lp many t M) (h4 : many ≤ 4) {x : Nat × Pr} (hx : x ∈ M) : x.2.size ≤ 15 := by
  have h1 := h.sz x hx
  have h2 : 2 ^ M.length ≤ 2 ^ 4 := Nat.pow_le_pow_right (by decide) (Nat.le_trans h.len h4)
  omega
def psi (many : Nat) (M : List (Nat × Pr)) : Nat := ((List.range many).map fun k => match lookM M k with
  | some p => p.val
  | none => 16 * 8 ^ 15).sum
theorem psi_lt {many : Nat} {M : List (Nat × Pr)} {k : Nat} {p : Pr} (hk : k < many) (h : (match lookM M k with | some q => p.val < q.val | none => p.val < 16 * 8 ^ 15)) : psi many (putM M k p) < psi many M := by
  unfold psi
  refine sum_lt (fun j _ => ?_) (List.mem_range.mpr hk) ?_
  · rw [lookM_put]
    by_cases e : j = k
    · subst e
      rw [if_pos rfl]
      cases e2 : lookM M j with
      | none => rw [e2] at h; exact Nat.le_of_lt h
      | some q => rw [e2] at h; exact Nat.le_of_lt h
    · rw [if_neg e]
      exact Nat.le_refl _
  · rw [lookM_put, if_pos rfl]
    cases e2 : lookM M k with
    | none => rw [e2] at h; exact h
    | some q => rw [e2] at h; exact h
theorem size_of_val {σ : List Nat} (h6 : σ.length ≤ 6) {p q : Pr} (hq : PrOk σ q) (h : p.val < q.val) : p.size ≤ q.size := by
  apply Classical.byContradiction
  intro c
  have h1 := Pr.cod_lt 15 q.pre fun d hx => Nat.lt_of_lt_of_le (Pr.pre_lt q hq.1 d hx) (by omega)
  have h2 : (q.size + 1) * 8 ^ 15 ≤ p.size * 8 ^ 15 := Nat.mul_le_mul_right _ (by omega)
  rw [Nat.succ_mul] at h2
  unfold Pr.val at h
  omega
/-- an entry all of whose parts are made -/
theorem Lp.put {many : Nat} {t : Tb} {M : List (Nat × Pr)} (h : Lp many t M) (ht : TbW many t) (h4 : many ≤ 4) {e : En} (he : e ∈ t.ents) (hp : ∀ k, k ∈ e.ps → k ∈ M.map (·.1)) {ps : List Pr} (hl : ps.length = e.ps.length) (hps : ∀ p, p ∈ ps → ∃ k, (k, p) ∈ M)
    (hb : (match lookM M e.k with | some q => (Pr.node e.s ps).val < q.val | none => True)) : Lp many t (putM M e.k (.node e.s ps)) ∧ psi many (putM M e.k (.node e.s ps)) < psi many M := by
  have hE := ht.e e he
  have hk2 : e.ps.length ≤ 2 := hE.two ht.s2
  have hsz : ∀ p, p ∈ ps → p.size + 1 ≤ 2 ^ M.length := fun p hp => by
    obtain ⟨k, hk⟩ := hps p hp
    exact h.sz _ hk
  have hsum : (Pr.node e.s ps).size + 1 ≤ 2 * 2 ^ M.length := by
    clear hb
    rw [Pr.size]
    have h1 : 1 ≤ 2 ^ M.length := Nat.one_le_two_pow
    match ps, hl with
    | [], _ => rw [Pr.sizes]; omega
    | [a], _ =>
      have := hsz a (by simp)
      rw [Pr.sizes, Pr.sizes]
      omega
    | [a, b], _ =>
      have := hsz a (by simp)
      have := hsz b (by simp)
      rw [Pr.sizes, Pr.sizes, Pr.sizes]
      omega
    | _ :: _ :: _ :: _, hl => simp at hl; omega
  have hnok : PrOk t.signs (.node e.s ps) := PrOk.node (by rw [hl]; exact hE.1) fun p hp => by
    obtain ⟨k, hk⟩ := hps p hp
    exact h.ok _ hk
  have hkm : e.k < many := hE.2.2
  have lenle : M.length ≤ (putM M e.k (.node e.s ps)).length := by
    have h1 := congrArg List.length (putM_keys (M := M) (k := e.k) (a := Pr.node e.s ps))
    rw [List.length_map] at h1
    rw [h1]
    split
    · rw [List.length_map]; exact Nat.le_refl _
    · rw [List.length_append, List.length_map]; omega
  have new : Lp many t (putM M e.k (.node e.s ps)) := by
    refine ⟨putM_nodup h.nd, fun x hx => ?_, fun x hx => ?_, fun x hx => ?_, fun x hx => ?_⟩
    · rcases putM_mem hx with rfl | ⟨hx, _⟩
      · exact hkm
      · exact h.lt x hx
    · rcases putM_mem hx with rfl | ⟨hx, _⟩
      · exact hnok
      · exact h.ok x hx
    · have hpw : ∀ x, x ∈ M → x.2.size + 1 ≤ 2 ^ (putM M e.k (.node e.s ps)).length := fun x hx => Nat.le_trans (h.sz x hx) (Nat.pow_le_pow_right (by decide) lenle)
      rcases putM_mem hx with rfl | ⟨hx, _⟩
      · cases e2 : lookM M e.k with
        | some q =>
          rw [e2] at hb
          have hq := hpw _ (lookM_mem e2)
          have hq' : q.size + 1 ≤ 2 ^ (putM M e.k (.node e.s ps)).length := hq
          have hb' := size_of_val ht.sl (h.ok _ (lookM_mem e2)) hb
          show (Pr.node e.s ps).size + 1 ≤ _
          exact Nat.le_trans (Nat.succ_le_succ hb') hq'
        | none =>
          have hnk : e.k ∉ M.map (·.1) := fun c => by
            obtain ⟨a, ha⟩ := lookM_of c
            rw [e2] at ha
            cases ha
          have h1 := congrArg List.length (putM_keys (M := M) (k := e.k) (a := Pr.node e.s ps))
          rw [if_neg hnk, List.length_map, List.length_append, List.length_map, List.length_singleton] at h1
          rw [h1, Nat.pow_succ, Nat.mul_comm]
          exact hsum
      · exact hpw x hx
    · rcases putM_mem hx with rfl | ⟨hx, _⟩
      · refine Mk.mk e he fun k hk => ?_
        obtain ⟨y, hy, rfl⟩ := List.mem_map.mp (hp k hk)
        exact h.made y hy
      · exact h.made x hx
  refine ⟨new, psi_lt hkm ?_⟩
  cases e2 : lookM M e.k with
  | some q => rw [e2] at hb; exact hb
  | none =>
    have hm : (e.k, Pr.node e.s ps) ∈ putM M e.k (.node e.s ps) := by
      have := lookM_put (M := M) (k := e.k) (j := e.k) (a := Pr.node e.s ps)
      rw [if_pos rfl] at this
      exact lookM_mem this
    exact Pr.val_big ht.sl hnok (new.sz15 h4 hm)
/-- nothing more can be made -/
def Closed (t : Tb) (M : List (Nat × Pr)) : Prop := ∀ e, e ∈ t.ents → (∀ k, k ∈ e.ps → k ∈ M.map (·.1)) → e.k ∈ M.map (·.1)
theorem Lp.keys {many : Nat} {t : Tb} {M : List (Nat × Pr)} (h : Lp many t M) (c : Closed t M) (k : Nat) : k ∈ M.map (·.1) ↔ Mk t k := by
  constructor
  · intro hk
    obtain ⟨y, hy, rfl⟩ := List.mem_map.mp hk
    exact h.made y hy
  · intro m
    induction m with
    | mk e he _ ih => exact c e he ih
theorem Lp.sorted {many : Nat} {t : Tb} {M : List (Nat × Pr)} (ht : TbW many t) (h : Lp many t M) (c : Closed t M) : nsort (M.map (·.1)) = madeL t := by
  have a1 : Asc dN (nsort (M.map (·.1))) := (nsort_sorted _).imp fun {a b} le => by
    rw [PySem.W.dataLt_int, decide_eq_false_iff_not]
    omega
  have a2 : Asc dN (madeL t) := by
    unfold madeL
    refine (List.Pairwise.filter _ (List.pairwise_lt_range (n := t.many))).imp fun {a b} r => ?_
    rw [PySem.W.dataLt_int, decide_eq_false_iff_not]
    omega
  have nd : (madeL t).Nodup := by
    unfold madeL
    exact List.nodup_range.filter _
  refine asc_eq toks_dN a1 a2 ((nsort_perm _).trans ((List.perm_ext_iff_of_nodup h.nd nd).mpr fun k => ?_))
  rw [h.keys c k]
  unfold madeL
  simp only [List.mem_filter, List.mem_range, decide_eq_true_eq]
  exact ⟨fun m => ⟨by rw [ht.m]; exact mk_lt ht m, m⟩, fun m => m.2⟩
end K3
end

section
set_option Elab.async false
set_option linter.all false
set_option autoImplicit false
set_option maxRecDepth 100000
set_option maxHeartbeats 2000000
/-! least_programs, made_kinds -/
namespace K3
open PySem PySem.Spec PyProof.Rows L2
section
variable {P : Program} {w : World} {K : PySem.W.Frag} {mg : Str → Option Value} {base : Heap}
def spLeast : Spf := fun ds R => ∃ (many : Nat) (t : Tb), ds = [t.enc] ∧ TbW many t ∧ many ≤ 4 ∧ ∀ g : Nat → D, R (dicD ((madeL t).map fun (n : Nat) => (((n : Nat) : Int), g n)))
abbrev n8 : List Str := ["table", "best", "is_new", "sign", "parts", "kind", "size", "found", "part"]
theorem sc8 : FnScope n8 ["table"] (defScope (top 8)) := ⟨rfl, rfl, rfl, by decide +kernel, rfl, by decide +kernel, by decide +kernel⟩
theorem alike_val {σ : List Nat} {p q : Pr} (hp : PrOk σ p) (hq : PrOk σ q) : PySem.W.alike p.valD q.valD = true := by
  unfold Pr.valD
  rw [PySem.W.alike, PySem.W.alikeAll, PySem.W.alikeAll, PySem.W.alikeAll, Pr.alike_pr p q hp.2 hq.2]
  rfl
theorem val_noDict (p : Pr) : p.valD.hasDict = false := by
  unfold Pr.valD
  rw [PyData.hasDict, PyData.hasDictAll, PyData.hasDictAll, PyData.hasDictAll, Pr.pr_noDict]
  rfl
theorem val_depth (p : Pr) (h : p.size ≤ 20) : p.valD.depth ≤ 30 := by
  have h1 := Pr.enc_depth p
  have h2 := p.depth_le_size
  unfold Pr.valD
  rw [PyData.depth, PyData.depthAll, PyData.depthAll, PyData.depthAll]
  show max 0 (max p.enc.depth 0) + 1 ≤ 30
  omega
theorem ok_least (T : Tx K mg) : FnN P w K mg base 1 "least_programs" ["table"] (spD K spLeast) := by
  obtain ⟨f, fd, F, hmg⟩ := T.top (x := "least_programs") (j := 8) 4
  refine fnD_of F hmg sc8 (fun _ _ _ _ _ _ us hl => match us, hl with | [_], _ => rfl) (fun ds R h => by obtain ⟨_, _, rfl, _⟩ := h; rfl) fun cdv A outer s H E ds R hr h => ?_
  obtain ⟨many, t, rfl, ht, h4, q⟩ := h
  have hu : (A.deeper (envOfC "least_programs" (defScope (top 8)) s.heap.objs.size f cdv)).units + 1 < cLine := L2.hu_of hr.1
  refine wss_mid (fun S' => S' = [.dat t.enc, .odic (encA Pr.valD []), .dat (.bool true), .no, .no, .no, .no, .no, .no]) ?_ fun S' hl hs => ?_
  · exact ws_tup2 1 2 sc8.nd (wva_cons (wv_dnew (wva_cons (wv_dat (w_bool (wva_nil ⟨rfl, rfl⟩))))))
  subst hs
  refine wss_mid (fun S' => ∃ (M : List (Nat × Pr)) (bb : Bool) (a c d e f : Sv K), Lp many t M ∧ Closed t M ∧ Fr d ∧ S' = [.dat t.enc, .odic (encA Pr.valD M), .dat (.bool bb), a, c, d, e, f, .no]) ?_ fun S' hl hs => ?_
  · refine ws_while PassesOwn.never (fun k S' => ∃ (M : List (Nat × Pr)) (bb : Bool) (a c d e f : Sv K), Lp many t M ∧ (bb = false → Closed t M) ∧ k = 2 * psi many M + (if bb = true then 1 else 0) ∧ Fr d ∧ S' = [.dat t.enc, .odic (encA Pr.valD M), .dat (.bool bb), a, c, d, e, f, .no]) _ ⟨[], true, .no, .no, .no, .no, .no, ⟨List.nodup_nil, fun x h => (nomatch h), fun x h => (nomatch h), fun x h => (nomatch h), fun x h => (nomatch h)⟩, fun h => (nomatch h), rfl, .no, rfl⟩ fun k S' hl hs => ?_
    obtain ⟨M0, bb, a, c, d, e, f, hM, hcl, rfl, fd, rfl⟩ := hs
    refine wt_val (w_var 2 rfl ⟨bb, rfl, ite_b (fun hb => ?_) fun hb => ⟨M0, bb, a, c, d, e, f, hM, hcl hb, fd, rfl⟩⟩)
    rw [if_pos hb]
    refine wss_cons (ws_set 2 sc8.nd (w_bool fun _ => ?_))
    refine wss_one (ws_forT3 3 4 5 sc8.nd (wi_tup (w_ix (w_var 0 rfl (w_int (xd_tup (i := 2) rfl ⟨_, rfl, ?_⟩)))) (p := true)))
    refine forQ_map t.ents En.enc (fun pre S' => ∃ (M : List (Nat × Pr)) (b2 : Bool) (a c d e f : Sv K), Lp many t M ∧ psi many M ≤ psi many M0 ∧ (b2 = true → psi many M < psi many M0) ∧ (b2 = false → M = M0 ∧ ∀ e, e ∈ pre → (∀ k, k ∈ e.ps → k ∈ M0.map (·.1)) → e.k ∈ M0.map (·.1)) ∧ Fr d ∧ S' = [.dat t.enc, .odic (encA Pr.valD M), .dat (.bool b2), a, c, d, e, f, .no]) ⟨M0, false, a, c, d, e, f, hM, Nat.le_refl _, fun h => (nomatch h), fun _ => ⟨rfl, fun e he => (nomatch he)⟩, fd, rfl⟩ (fun pre en post S' ee hl hs => ?_) (fun S' hl hs => ?_)
    · obtain ⟨M, b2, a, c, d, e, f, hM, p1, p2, p3, fd, rfl⟩ := hs
      have hen : en ∈ t.ents := by rw [ee]; simp
      have hEn := ht.e en hen
      have har : en.ps.length ≤ 2 := hEn.two ht.s2
      have hlk : ∀ k, lookD (encA Pr.valD M) (k : Nat) = (lookM M k).map Pr.valD := fun k => lookD_encA M k
      have hML : M.length < 100000 := by have := hM.len; omega
      refine ⟨_, ⟨[dN en.s, tN en.ps, dN en.k], rfl, rfl, rfl⟩, wss_one (ws_if (wt_val (w_all T rfl (w_lcN 8 [("part", 8)] sc8.nd (blkOk_by (N := n8) (sc := defScope (top 8)) (by decide +kernel)) (idle1 rfl) (wi_tup (w_var 4 rfl ⟨_, rfl, ?_⟩))))))⟩
      refine lcq_map en.ps dN (fun k => .bool (lookM M k).isSome) (slt (by omega)) (fun k hk => ⟨_, rfl, fun s H C cl fp => w_inO 1 hu rfl (w_var 8 rfl ⟨_, rfl, ?_⟩)⟩) ⟨en.ps.map fun k => (lookM M k).isSome, by rw [List.map_map]; rfl, _, rfl, ?_⟩
      · rw [hlk]
        cases lookM M k <;> rfl
      refine ite_b (fun hall => ?_) fun hall => ?_
      · have hmk : ∀ k, k ∈ en.ps → k ∈ M.map (·.1) := fun k hk => by
          rw [List.all_map] at hall
          have h1 := List.all_eq_true.mp hall k hk
          have h2 : (lookM M k).isSome = true := h1
          rw [lookM_isSome] at h2
          exact of_decide_eq_true h2
        obtain ⟨ps, hpl, hps⟩ : ∃ ps : List Pr, ps.length = en.ps.length ∧ ∀ (i k : Nat), en.ps[i]? = some k → ∃ p, ps[i]? = some p ∧ lookM M k = some p := by
          refine ⟨en.ps.map fun k => (lookM M k).getD .hole, by rw [List.length_map], fun i k hi => ?_⟩
          obtain ⟨p, hp⟩ := lookM_of (hmk k (List.mem_of_getElem? hi))
          exact ⟨p, by rw [List.getElem?_map, hi]; show some ((lookM M k).getD .hole) = _; rw [hp]; rfl, hp⟩
        have hmap : ∀ g : Pr → D, (en.ps.map fun k => ((lookM M k).map g).getD .none) = ps.map g := fun g => by
          refine List.ext_getElem? fun i => ?_
          rw [List.getElem?_map, List.getElem?_map]
          cases e2 : en.ps[i]? with
          | none =>
            have : ps[i]? = none := List.getElem?_eq_none_iff.mpr (by rw [hpl]; exact List.getElem?_eq_none_iff.mp e2)
            rw [this]
            rfl
          | some k =>
            obtain ⟨p, hp1, hp2⟩ := hps i k e2
            rw [hp1]
            show some (((lookM M k).map g).getD .none) = _
            rw [hp2]
            rfl
        have hpm : ∀ p, p ∈ ps → ∃ k, (k, p) ∈ M := fun p hp => by
          obtain ⟨i, hi⟩ := List.getElem?_of_mem hp
          have hlt : i < en.ps.length := by rw [← hpl]; exact (List.getElem?_eq_some_iff.mp hi).1
          obtain ⟨p', hp1, hp2⟩ := hps i _ (List.getElem?_eq_getElem hlt)
          rw [hi] at hp1
          cases hp1
          exact ⟨_, lookM_mem hp2⟩
        have hsz : (Pr.node en.s ps).size = 1 + (ps.map Pr.size).sum := by rw [Pr.size, Pr.sizes_eq]
        have hnok : PrOk t.signs (.node en.s ps) := PrOk.node (by rw [hpl]; exact hEn.1) fun p hp => by
          obtain ⟨k, hk⟩ := hpm p hp
          exact hM.ok _ hk
        refine wss_cons (ws_set 6 sc8.nd (w_addN (w_int ⟨1, rfl, w_sumN T ?_⟩)))
        refine w_lcN 8 [("part", 8)] sc8.nd (blkOk_by (N := n8) (sc := defScope (top 8)) (by decide +kernel)) (idle1 rfl) (wi_tup (w_var 4 rfl ⟨_, rfl, ?_⟩))
        refine lcq_map en.ps dN (fun k => ((lookM M k).map fun p : Pr => dN p.size).getD .none) (slt (by omega)) (fun k hk => ⟨_, rfl, fun s H C cl fp => ?_⟩) ⟨ps.map Pr.size, .inl ?_, ⟨_, rfl, fun _ => ?_⟩⟩
        · obtain ⟨p, hp⟩ := lookM_of (hmk k hk)
          refine w_ix (w_getO 1 hu rfl (w_var 8 rfl ⟨_, _, rfl, (hlk k).trans (by rw [hp]; rfl), w_int (xd_tup (i := 0) (d := dN p.size) rfl ?_)⟩))
          rw [hp]
          rfl
        · rw [hmap, List.map_map]
          rfl
        rw [← hsz]
        refine wss_cons (ws_set 7 sc8.nd (w_tup (wa_cons (w_var 6 rfl (wa_cons (w_tup (wa_cons (w_var 3 rfl (wa_star (w_lcN 8 [("part", 8)] sc8.nd (blkOk_by (N := n8) (sc := defScope (top 8)) (by decide +kernel)) (idle1 rfl) (wi_tup (w_var 4 rfl ⟨_, rfl, ?_⟩))))))))))))
        refine lcq_map en.ps dN (fun k => ((lookM M k).map Pr.enc).getD .none) (slt (by omega)) (fun k hk => ⟨_, rfl, fun s H C cl fp => ?_⟩) ⟨_, .inl rfl, wa_nil ⟨?_, wa_nil ⟨szl (Nat.le_of_ble_eq_true rfl), fun _ => ?_⟩⟩⟩
        · obtain ⟨p, hp⟩ := lookM_of (hmk k hk)
          refine w_ix (w_getO 1 hu rfl (w_var 8 rfl ⟨_, _, rfl, (hlk k).trans (by rw [hp]; rfl), w_int (xd_tup (i := 1) (d := p.enc) rfl ?_)⟩))
          rw [hp]
          rfl
        · rw [List.length_cons, List.length_append, List.length_map, List.length_nil]
          exact szl (by omega)
        have ev : PyData.tuple [dN (Pr.node en.s ps).size, .tuple (dN en.s :: ((en.ps.map fun k => ((lookM M k).map Pr.enc).getD .none) ++ []))] = (Pr.node en.s ps).valD := by
          rw [hmap, List.append_nil, ← Pr.enc_node]
          rfl
        rw [ev]
        refine wss_one (ws_if (WT.mono (Q := fun tt => (tt = true → (match lookM M en.k with | some q => (Pr.node en.s ps).val < q.val | none => True)) ∧ (tt = false → en.k ∈ M.map (·.1))) ?_ fun tt htt => ?_))
        · refine wt_pw (ww_or (wt_notinO 1 hu rfl (w_var 5 rfl ⟨_, rfl, ?_⟩)))
          rw [hlk]
          cases e3 : lookM M en.k with
          | none =>
            exact ite_b (fun _ => ⟨fun _ => trivial, fun h => nomatch h⟩) fun h => absurd h (by simp)
          | some q =>
            have hq := lookM_mem e3
            refine ite_b (fun h => absurd h (by simp)) fun _ => ?_
            refine ww_or1 (wt_cmp (w_var 7 rfl (w_getO 1 hu rfl (w_var 5 rfl ⟨_, _, rfl, (hlk en.k).trans (by rw [e3]; rfl), od_ltD ?_ (val_noDict _) (val_noDict _) (alike_val hnok (hM.ok _ hq)) (by unfold Pr.valD; exact fun z => nomatch z) ?_ ⟨_, rfl, fun h => ?_, fun _ => ?_⟩⟩))))
            · have := hr.1.un
              show (A.deeper (envOfC "least_programs" (defScope (top 8)) s.heap.objs.size _ cdv)).units + 64 < cLine
              omega
            · have hqs : q.size ≤ 15 := hM.sz15 h4 hq
              exact Nat.le_trans (Nat.min_le_right _ _) (Nat.le_trans (val_depth q (by omega)) (by decide))
            · exact Pr.val_lt ht.sl hnok (hM.ok _ hq) (hM.sz15 h4 hq) h
            · exact List.mem_map.mpr ⟨_, hq, rfl⟩
        · cases tt with
          | false =>
            rw [if_neg Bool.false_ne_true]
            refine wss_nil ⟨M, b2, _, _, _, _, _, hM, p1, p2, fun hb2 => ?_, .dat, rfl⟩
            obtain ⟨rfl, z⟩ := p3 hb2
            refine ⟨rfl, fun e he => ?_⟩
            rcases List.mem_append.mp he with he | he
            · exact z e he
            · rw [List.mem_singleton] at he
              rw [he]
              exact fun _ => htt.2 rfl
          | true =>
            rw [if_pos rfl]
            obtain ⟨hM2, hlt⟩ := hM.put ht h4 hen hmk hpl hpm (htt.1 rfl)
            refine wss_cons (ws_putO 1 hu rfl (by unfold encA; rw [List.length_map]; exact hML) (w_var 7 rfl (w_var 5 rfl ⟨_, rfl, fun _ => ?_⟩)))
            refine wss_one (ws_set 2 sc8.nd (w_bool ⟨putM M en.k (.node en.s ps), true, .dat (dN en.s), .dat (tN en.ps), .dat (dN en.k), .dat (dN (Pr.node en.s ps).size), .dat (Pr.node en.s ps).valD, hM2, by omega, fun _ => by omega, fun z => (nomatch z), .dat, ?_⟩))
            have e7 : putD (encA Pr.valD M) (en.k : Nat) (Pr.node en.s ps).valD = encA Pr.valD (putM M en.k (.node en.s ps)) := putD_encA M en.k (.node en.s ps)
            rw [← e7]
            rfl
      · refine wss_nil ⟨M, b2, _, _, _, e, f, hM, p1, p2, fun hb2 => ?_, .dat, rfl⟩
        obtain ⟨rfl, z⟩ := p3 hb2
        refine ⟨rfl, fun e he => ?_⟩
        rcases List.mem_append.mp he with he | he
        · exact z e he
        · rw [List.mem_singleton] at he
          rw [he]
          intro hk
          rw [List.all_map] at hall
          have : (en.ps.all fun k => (lookM M k).isSome) = true := List.all_eq_true.mpr fun k hk2 => by
            rw [lookM_isSome]
            exact decide_eq_true (hk k hk2)
          have hall' : (en.ps.all fun k => (lookM M k).isSome) = false := hall
          rw [this] at hall'
          cases hall'
    · obtain ⟨M, b2, a, c, d, e, f, hM, p1, p2, p3, fd, rfl⟩ := hs
      refine ⟨2 * psi many M + (if b2 = true then 1 else 0), ?_, M, b2, a, c, d, e, f, hM, fun hb2 => ?_, rfl, fd, rfl⟩
      · cases b2 with
        | true =>
          have := p2 rfl
          rw [if_pos rfl]
          omega
        | false =>
          rw [if_neg Bool.false_ne_true]
          omega
      · obtain ⟨rfl, z⟩ := p3 hb2
        exact z
  · obtain ⟨M, bb, a, c, d, e, f, hM, hcl, fd, rfl⟩ := hs
    refine wss_one (ws_ret (w_dcN 5 [("kind", 5)] sc8.nd (blkOk_by (N := n8) (sc := defScope (top 8)) (by decide +kernel)) (idle1F rfl fd) (wi_list (w_sortedO 1 T hr rfl rfl ⟨_, rfl, ?_⟩))))
    have e0 : (srt PyData.int (keysD (encA Pr.valD M))).map PyData.int = (madeL t).map dN := by
      rw [keysD_encA, srt_nats, List.map_map, hM.sorted ht hcl]
      rfl
    rw [e0]
    have nd : (madeL t).Nodup := by
      unfold madeL
      exact List.nodup_range.filter _
    refine ⟨madeL t, fun n => ((lookM M n).map Pr.enc).getD .none, rfl, nd, ?_, fun n hn s H C cl fp => ⟨w_var 5 rfl rfl, ?_⟩, q _⟩
    · unfold madeL
      refine Nat.le_trans (List.length_filter_le _ _) ?_
      rw [List.length_range, ht.m]
      omega
    · have hk : n ∈ M.map (·.1) := by
        rw [hM.keys hcl]
        unfold madeL at hn
        simp only [List.mem_filter, decide_eq_true_eq] at hn
        exact hn.2
      obtain ⟨p, hp⟩ := lookM_of hk
      refine w_ix (w_getO 1 hu rfl (w_var 5 rfl ⟨_, _, rfl, (lookD_encA M n).trans (by rw [hp]; rfl), w_int (xd_tup (i := 1) (d := p.enc) rfl ?_)⟩))
      show p.enc = ((lookM M n).map Pr.enc).getD .none
      rw [hp]
      rfl
/-! ### made_kinds -/
def spMadeK : Spf := fun ds R => ∃ (many : Nat) (t : Tb), ds = [t.enc] ∧ TbW many t ∧ many ≤ 4 ∧ R (.list ((madeL t).map dN))
theorem sc9 : FnScope ["table"] ["table"] (defScope (top 9)) := ⟨rfl, rfl, rfl, by decide +kernel, rfl, by decide +kernel, by decide +kernel⟩
theorem ok_madeK (T : Tx K mg) : FnN P w K mg base 2 "made_kinds" ["table"] (spD K spMadeK) := by
  obtain ⟨f, fd, F, hmg⟩ := T.top (x := "made_kinds") (j := 9) 5
  refine fnD_of F hmg sc9 (fun _ _ _ _ _ _ us hl => match us, hl with | [_], _ => rfl) (fun ds R h => by obtain ⟨_, _, rfl, _⟩ := h; rfl) fun cdv A outer s H E ds R hr h => ?_
  obtain ⟨many, t, rfl, ht, h4, q⟩ := h
  refine wss_one (ws_ret (w_listDic T rfl (w_call (ok_least T) hr (by decide) (wa_cons (w_var 0 rfl (wa_nil ⟨many, t, rfl, ht, h4, fun g => ⟨_, rfl, ?_⟩⟩))))))
  have e : (keysD ((madeL t).map fun (n : Nat) => (((n : Nat) : Int), g n))).map PyData.int = (madeL t).map dN := by
    unfold keysD
    rw [List.map_map, List.map_map]
    rfl
  rw [e]
  exact q
end
end K3
end

section
set_option Elab.async false
set_option linter.all false
set_option autoImplicit false
set_option maxRecDepth 100000
set_option maxHeartbeats 1000000
/-! repr of data. -/
namespace K3
open PySem PySem.Spec PyProof.Rows L2
/-! ### data that is shown in little room -/
mutual
def nn : D → Nat
  | .list xs => 1 + nns xs
  | .tuple xs => 1 + nns xs
  | .none => 1
  | .bool _ => 1
  | .int _ => 1
  | .str _ => 1
  | .dict _ => 1
def nns : List D → Nat
  | [] => 0
  | d :: ds => nn d + nns ds
end
mutual
def okD : D → Prop
  | .none => True
  | .int i => i.natAbs < 10 ^ 15
  | .list xs => okDs xs
  | .tuple xs => okDs xs
  | _ => False
def okDs : List D → Prop
  | [] => True
  | d :: ds => okD d ∧ okDs ds
end
mutual
theorem ok_noDict : ∀ d : D, okD d → d.hasDict = false
  | .none, _ => by simp only [PyData.hasDict]
  | .int _, _ => by simp only [PyData.hasDict]
  | .list xs, h => by
    rw [okD] at h
    rw [PyData.hasDict, oks_noDict xs h]
  | .tuple xs, h => by
    rw [okD] at h
    rw [PyData.hasDict, oks_noDict xs h]
  | .bool _, h => by simp only [okD] at h
  | .str _, h => by simp only [okD] at h
  | .dict _, h => by simp only [okD] at h
theorem oks_noDict : ∀ ds : List D, okDs ds → PyData.hasDictAll ds = false
  | [], _ => by rw [PyData.hasDictAll]
  | d :: ds, h => by
    rw [okDs] at h
    rw [PyData.hasDictAll, ok_noDict d h.1, oks_noDict ds h.2]
    rfl
end
mutual
theorem ok_lay : ∀ d : D, okD d → d.canLay0 = true
  | .none, _ => by simp only [PyData.canLay0]
  | .int _, _ => by simp only [PyData.canLay0]
  | .list xs, h => by
    rw [okD] at h
    rw [PyData.canLay0, oks_lay xs h]
  | .tuple xs, h => by
    rw [okD] at h
    rw [PyData.canLay0, oks_lay xs h]
  | .bool _, h => by simp only [okD] at h
  | .str _, h => by simp only [okD] at h
  | .dict _, h => by simp only [okD] at h
theorem oks_lay : ∀ ds : List D, okDs ds → PyData.canLayAll0 ds = true
  | [], _ => by rw [PyData.canLayAll0]
  | d :: ds, h => by
    rw [okDs] at h
    rw [PyData.canLayAll0, ok_lay d h.1, oks_lay ds h.2]
    rfl
end
theorem log_small {i : Int} (h : i.natAbs < 10 ^ 15) : i.natAbs.log2 < 1920 := by
  by_cases z : i.natAbs = 0
  · rw [z]
    decide
  · refine (Nat.log2_lt z).mpr ?_
    exact Nat.lt_of_lt_of_le h (by decide +kernel)
mutual
theorem ok_show : ∀ d : D, okD d → d.showable = true
  | .none, _ => by simp only [PyData.showable]
  | .int i, h => by
    rw [okD] at h
    rw [PyData.showable]
    exact decide_eq_true (log_small h)
  | .list xs, h => by
    rw [okD] at h
    rw [PyData.showable, oks_show xs h]
  | .tuple xs, h => by
    rw [okD] at h
    rw [PyData.showable, oks_show xs h]
  | .bool _, h => by simp only [okD] at h
  | .str _, h => by simp only [okD] at h
  | .dict _, h => by simp only [okD] at h
theorem oks_show : ∀ ds : List D, okDs ds → PyData.showableAll ds = true
  | [], _ => by rw [PyData.showableAll]
  | d :: ds, h => by
    rw [okDs] at h
    rw [PyData.showableAll, ok_show d h.1, oks_show ds h.2]
    rfl
end
theorem int_shown {i : Int} (h : i.natAbs < 10 ^ 15) : (PyData.shown (.int i)).length ≤ 16 := by
  have e := int_text_length_le10 (k := 15) (by decide) h
  show (Str.ofString (toString i)).length ≤ 16
  rw [PySem.ofString_length]
  exact e
mutual
theorem shown_nn : ∀ d : D, okD d → d.shown.length + 2 ≤ 22 * nn d
  | .none, _ => by
    have e : (PyData.shown .none).length = 4 := rfl
    rw [e, nn]
    decide
  | .int i, h => by
    rw [okD] at h
    have := int_shown h
    rw [nn]
    omega
  | .list xs, h => by
    rw [okD] at h
    have h1 := shown_nns xs h
    have h2 := listText_len_le (PyData.shownAll xs)
    have h3 : (PyData.shownAll xs).length = xs.length := shownAll_len xs
    rw [PyData.shown, nn]
    omega
  | .tuple xs, h => by
    rw [okD] at h
    have h1 := shown_nns xs h
    have h2 := tupleText_len_le (PyData.shownAll xs)
    have h3 : (PyData.shownAll xs).length = xs.length := shownAll_len xs
    rw [PyData.shown, nn]
    omega
  | .bool _, h => by simp only [okD] at h
  | .str _, h => by simp only [okD] at h
  | .dict _, h => by simp only [okD] at h
theorem shown_nns : ∀ ds : List D, okDs ds → ((PyData.shownAll ds).map (·.length)).sum + 2 * ds.length ≤ 22 * nns ds
  | [], _ => by rw [PyData.shownAll, nns]; decide
  | d :: ds, h => by
    rw [okDs] at h
    have h1 := shown_nn d h.1
    have h2 := shown_nns ds h.2
    rw [PyData.shownAll, nns, List.map_cons, List.sum_cons, List.length_cons]
    omega
theorem shownAll_len : ∀ ds : List D, (PyData.shownAll ds).length = ds.length
  | [] => by rw [PyData.shownAll]; rfl
  | d :: ds => by rw [PyData.shownAll, List.length_cons, List.length_cons, shownAll_len ds]
end
/-- small enough -/
structure Sm (d : D) : Prop where
  ok : okD d
  n : nn d ≤ 100000
  dp : d.depth ≤ 50
theorem Sm.fits {d : D} (h : Sm d) : d.shown.length ≤ sizeLine := by
  have h1 := shown_nn d h.ok
  have h2 := h.n
  rw [sizeLine_eq]
  omega
theorem Sm.shaped {d : D} (h : Sm d) : SeqAt.shaped d = true := shaped_of (ok_lay d h.ok) (Nat.le_trans h.dp (by decide))
section
variable {X : Cx} {S : Sto X.K} {Q : D → Prop} {e : Expr} {pos p : Pos}
theorem cd_repr {d : D} (hr : X.A.units + 64 < cLine) (hg : X.A.guards = some []) (h : Sm d) (q : Q (.str d.shown)) : CD X (.builtin "repr") [d] Q := fun F H xs Q' f a k pins s σ us I r => by
  cases a with
  | @cons v _ _ _ i1 t =>
    cases t
    obtain ⟨u, rfl, ru⟩ := vals1 r
    cases i1 with
    | non =>
      obtain rfl := ru
      exact PySem.P.repr_of_none ⟨.str _, H, I.tok _, ⟨_, rfl⟩, k (.str _) (.str _) H q (Evl.Ex.refl _) (.str _)⟩
    | int i =>
      obtain ⟨t, rfl⟩ := ru
      have := h.ok
      rw [okD] at this
      exact PySem.P.repr_of_int (log_small this) ⟨.str _, H, I.tok _, ⟨_, rfl⟩, k (.str _) (.str _) H q (Evl.Ex.refl _) (.str _)⟩
    | bl b => exact absurd h.ok (by simp only [okD]; exact id)
    | str x => exact absurd h.ok (by simp only [okD]; exact id)
    | dic x y => exact absurd h.ok (by simp only [okD]; exact id)
    | @lst a vs ds h1 h2 =>
      obtain rfl := ru
      obtain ⟨as, rd⟩ := Dp.reads I _ _ _ (((Is.lst h1 h2).mono f).dp (ok_noDict _ h.ok)) (rfl : RelV (.ref a) (.ref a))
      have := h.dp
      exact repr_of_reads' rd (ok_show _ h.ok) (fun z => absurd z (by rw [ok_noDict _ h.ok]; decide)) hg (by omega) (fun _ _ e => e) (fun h' u tk hk => ⟨.str _, H, I.kept (t' := tk) hk, ⟨u, rfl⟩, k (.str _) (.str _) H q (Evl.Ex.refl _) (.str _)⟩) h.fits
    | @tup a vs ds h1 h2 =>
      obtain rfl := ru
      obtain ⟨as, rd⟩ := Dp.reads I _ _ _ (((Is.tup h1 h2).mono f).dp (ok_noDict _ h.ok)) (rfl : RelV (.ref a) (.ref a))
      have := h.dp
      exact repr_of_reads' rd (ok_show _ h.ok) (fun z => absurd z (by rw [ok_noDict _ h.ok]; decide)) hg (by omega) (fun _ _ e => e) (fun h' u tk hk => ⟨.str _, H, I.kept (t' := tk) hk, ⟨u, rfl⟩, k (.str _) (.str _) H q (Evl.Ex.refl _) (.str _)⟩) h.fits
/-- repr(e) -/
theorem w_repr (T : Tx X.K X.mg) {kk : Nat} (hr : Rm kk X.A) (h : W X e S fun d => Sm d ∧ Q (.str d.shown)) (hg : Gl X "repr" := by rfl) (he : starEach [e] X.env = (false, eval e X.env) :: starEach [] X.env := by rfl) : W X (.Call (.Name "repr" p) [e] [] pos) S Q :=
  w_callB (id := "repr") hg T.free (by decide +kernel) (wa_cons (h.mono fun d ⟨sm, q⟩ => wa_nil (cd_repr (by have := hr.1.un; omega) hr.2 sm q)) he) (he := he)
/-- == of texts -/
theorem od_eqS {a b : Str} (q : Q (.bool (decide (a = b)))) : OD X (compareOp .Eq) (.str a) (.str b) Q := od_r op_eq fun F H x y Q' f i1 i2 k => by
  cases i1
  cases i2
  refine ⟨rfl, ?_⟩
  have e : decide (V.str a = V.str b) = decide (a = b) := decide_eq_decide.mpr ⟨fun h => V.str.inj h, fun h => by rw [h]⟩
  rw [e]
  exact k.bool q
theorem od_neS {a b : Str} (q : Q (.bool (!decide (a = b)))) : OD X (compareOp .NotEq) (.str a) (.str b) Q := od_r op_ne fun F H x y Q' f i1 i2 k => by
  cases i1
  cases i2
  refine ⟨rfl, ?_⟩
  have e : decide (V.str a = V.str b) = decide (a = b) := decide_eq_decide.mpr ⟨fun h => V.str.inj h, fun h => by rw [h]⟩
  rw [e]
  exact k.bool q
end
section
variable {P : Program} {w : World} {K : PySem.W.Frag} {mg : Str → Option Value} {base : Heap}
/-! ### _law_alike -/
def spAlike : Spf := fun ds R => ∃ d : D, ds = [d, d] ∧ Sm d ∧ R (.bool true)
abbrev n24 : List Str := ["_law_found", "_law_due"]
theorem sc24 : FnScope n24 n24 (defScope (top 24)) := ⟨rfl, rfl, rfl, by decide +kernel, rfl, by decide +kernel, by decide +kernel⟩
theorem ok_alike (T : Tx K mg) : FnN P w K mg base 1 "_law_alike" n24 (spD K spAlike) := by
  obtain ⟨f, fd, F, hmg⟩ := T.top (x := "_law_alike") (j := 24) 13
  refine fnD_of F hmg sc24 (fun _ _ _ _ _ _ us hl => match us, hl with | [_, _], _ => rfl) (fun ds R h => by obtain ⟨_, rfl, _⟩ := h; rfl) fun cdv A outer s H E ds R hr h => ?_
  obtain ⟨d, rfl, sm, q⟩ := h
  refine wss_one (ws_ret (w_and (w_cmp (w_var 0 rfl (w_var 1 rfl (od_eqD ?_ (ok_noDict d sm.ok) (ok_noDict d sm.ok) sm.shaped sm.shaped ⟨true, by rw [SeqAt.eqv_refl d (ok_lay d sm.ok)], ?_⟩))))))
  · have := hr.1.un
    show (A.deeper (envOfC "_law_alike" (defScope (top 24)) s.heap.objs.size f cdv)).units + 64 < cLine
    omega
  · rw [if_pos rfl]
    refine w_one (w_cmp (w_repr T hr (w_var 0 rfl ⟨sm, w_repr T hr (w_var 1 rfl ⟨sm, od_eqS ?_⟩)⟩)))
    rw [decide_eq_true rfl]
    exact q
end
end K3
end

section
set_option Elab.async false
set_option linter.all false
set_option autoImplicit false
set_option maxRecDepth 100000
set_option maxHeartbeats 1000000
/-! Plain: what goes_along needs of programs put together and renumbered; what is small. -/
namespace K3
open PySem PySem.Spec PyProof.Rows L2
namespace Pr
mutual
theorem ren_depth (σ : List Nat) : ∀ p : Pr, (ren σ p).depth = p.depth
  | .hole => by rw [ren]
  | .node s ps => by rw [ren, depth, depth, rens_depths σ ps]
theorem rens_depths (σ : List Nat) : ∀ ps : List Pr, depths (rens σ ps) = depths ps
  | [] => by rw [rens]
  | p :: ps => by rw [rens, depths, depths, ren_depth σ p, rens_depths σ ps]
end
mutual
theorem ren_full (σ : List Nat) : ∀ p : Pr, p.full → (ren σ p).full
  | .hole, h => by rw [full] at h; exact h.elim
  | .node s ps, h => by
    rw [full] at h
    rw [ren, full]
    exact rens_fulls σ ps h
theorem rens_fulls (σ : List Nat) : ∀ ps : List Pr, fulls ps → fulls (rens σ ps)
  | [], _ => by rw [rens, fulls]; trivial
  | p :: ps, h => by
    rw [fulls] at h
    rw [rens, fulls]
    exact ⟨ren_full σ p h.1, rens_fulls σ ps h.2⟩
end
theorem rens_length (σ : List Nat) (ps : List Pr) : (rens σ ps).length = ps.length := by rw [rens_eq, List.length_map]
mutual
theorem allS_mono {P Q : Nat → List Pr → Prop} (h : ∀ s ps, P s ps → Q s ps) : ∀ p : Pr, p.AllS P → p.AllS Q
  | .hole, _ => by rw [AllS]; trivial
  | .node s ps, a => by
    rw [AllS] at a ⊢
    exact ⟨h s ps a.1, allSs_mono h ps a.2⟩
theorem allSs_mono {P Q : Nat → List Pr → Prop} (h : ∀ s ps, P s ps → Q s ps) : ∀ ps : List Pr, AllSs P ps → AllSs Q ps
  | [], _ => by rw [AllSs]; trivial
  | p :: ps, a => by
    rw [AllSs] at a ⊢
    exact ⟨allS_mono h p a.1, allSs_mono h ps a.2⟩
end
mutual
theorem ren_allS {P Q : Nat → List Pr → Prop} {σ : List Nat} (h : ∀ s ps, P s ps → Q (σ.idxOf s) (rens σ ps)) : ∀ p : Pr, p.AllS P → (ren σ p).AllS Q
  | .hole, _ => by rw [ren, AllS]; trivial
  | .node s ps, a => by
    rw [AllS] at a
    rw [ren, AllS]
    exact ⟨h s ps a.1, rens_allSs h ps a.2⟩
theorem rens_allSs {P Q : Nat → List Pr → Prop} {σ : List Nat} (h : ∀ s ps, P s ps → Q (σ.idxOf s) (rens σ ps)) : ∀ ps : List Pr, AllSs P ps → AllSs Q (rens σ ps)
  | [], _ => by rw [rens, AllSs]; trivial
  | p :: ps, a => by
    rw [AllSs] at a
    rw [rens, AllSs]
    exact ⟨ren_allS h p a.1, rens_allSs h ps a.2⟩
end
mutual
theorem put_size : ∀ (p : Pr) (k : Nat), (put p k .hole).size ≤ p.size
  | .hole, k => by
    rw [put]
    split <;> exact Nat.le_refl _
  | .node s ps, k => by
    rw [put]
    split
    · rw [size, size]; omega
    · have := puts_sizes 1 ps k
      rw [size, size]
      omega
theorem puts_sizes : ∀ (f : Nat) (ps : List Pr) (k : Nat), sizes (puts f ps k .hole) ≤ sizes ps
  | f, [], k => by rw [puts]; exact Nat.le_refl _
  | f, p :: ps, k => by
    have h1 := put_size p (k - f)
    have h2 := puts_sizes (f + p.size) ps k
    rw [puts, sizes, sizes]
    split <;> omega
end
mutual
theorem put_allS {P : Nat → Prop} : ∀ (p : Pr) (k : Nat), p.AllS (fun s _ => P s) → (put p k .hole).AllS (fun s _ => P s)
  | .hole, k, _ => by
    rw [put]
    split <;> rw [AllS] <;> trivial
  | .node s ps, k, a => by
    rw [put]
    split
    · rw [AllS]; trivial
    · rw [AllS] at a ⊢
      exact ⟨a.1, puts_allSs 1 ps k a.2⟩
theorem puts_allSs {P : Nat → Prop} : ∀ (f : Nat) (ps : List Pr) (k : Nat), AllSs (fun s _ => P s) ps → AllSs (fun s _ => P s) (puts f ps k .hole)
  | f, [], k, _ => by rw [puts, AllSs]; trivial
  | f, p :: ps, k, a => by
    rw [AllSs] at a
    rw [puts, AllSs]
    refine ⟨?_, puts_allSs (f + p.size) ps k a.2⟩
    split
    · exact put_allS p _ a.1
    · exact a.1
end
end Pr
section
variable {many : Nat} {t : Tb} {κ σ : List Nat}
theorem ren_prOk (hσ : Pm t.signs.length σ) {p : Pr} (hp : PrOk t.signs p) : PrOk (renT κ σ t).signs (p.ren σ) := by
  refine ⟨Pr.ren_allS (fun s ps h => ?_) p hp.1, Pr.ren_full σ p hp.2⟩
  have hs : s < t.signs.length := (List.getElem?_eq_some_iff.mp h).1
  show (σ.map fun s => t.signs.getD s 0)[σ.idxOf s]? = _
  rw [List.getElem?_map, hσ.at_ (hσ.ilt hs), hσ.get_idx hs, Option.map_some, List.getD_eq_getElem?_getD, h, Pr.rens_length]
  rfl
theorem prOk_lt {p : Pr} (hp : PrOk t.signs p) : p.AllS (fun s _ => s < t.signs.length) := Pr.allS_mono (fun s ps h => (List.getElem?_eq_some_iff.mp h).1) p hp.1
theorem RdOk.ren {p : Pr} (h : RdOk many t p) (hκ : Pm many κ) (hσ : Pm t.signs.length σ) : RdOk many (renT κ σ t) (p.ren σ) := ⟨h.w.ren hκ hσ, h.m4, ren_prOk hσ h.pr, by rw [Pr.ren_size]; exact h.z⟩
end
/-- the kinds of readings -/
theorem rows_kinds {many : Nat} {t : Tb} (h : TbW many t) : ∀ (p : Pr) (k : Nat), k < many → ∀ r, r ∈ rows t p k → ∀ x, x ∈ r → x < many := by
  intro p
  refine Pr.ind' (P := fun p => ∀ (k : Nat), k < many → ∀ r, r ∈ rows t p k → ∀ x, x ∈ r → x < many) (fun k hk r hr x hx => ?_) ?_ p
  · rw [rows, List.mem_singleton] at hr
    rw [hr, List.mem_singleton] at hx
    rw [hx]
    exact hk
  · intro s ps ih k hk r hr x hx
    rw [rows] at hr
    obtain ⟨e, he, hr⟩ := List.mem_flatMap.mp hr
    obtain ⟨r', hr', rfl⟩ := List.mem_map.mp hr
    rcases List.mem_cons.mp hx with rfl | hx
    · exact hk
    · have z := h.e e (at_mem he).1
      have key : ∀ (ps : List Pr) (ks : List Nat), (∀ p, p ∈ ps → ∀ (k : Nat), k < many → ∀ r, r ∈ rows t p k → ∀ x, x ∈ r → x < many) → (∀ k, k ∈ ks → k < many) → ∀ r, r ∈ rowss t ps ks → ∀ x, x ∈ r → x < many := by
        intro ps
        induction ps with
        | nil =>
          intro ks _ _ r hr x hx
          rw [rowss_nil, List.mem_singleton] at hr
          rw [hr] at hx
          cases hx
        | cons p ps ih =>
          intro ks h1 h2 r hr x hx
          cases ks with
          | nil =>
            rw [rowss_nil2, List.mem_singleton] at hr
            rw [hr] at hx
            cases hx
          | cons k ks =>
            rw [rowss] at hr
            obtain ⟨r1, hr1, hm⟩ := List.mem_flatMap.mp hr
            obtain ⟨r2, hr2, rfl⟩ := List.mem_map.mp hm
            rcases List.mem_append.mp hx with hx | hx
            · exact h1 p (List.mem_cons_self ..) k (h2 k (List.mem_cons_self ..)) r1 hr1 x hx
            · exact ih ks (fun q hq => h1 q (List.mem_cons_of_mem _ hq)) (fun j hj => h2 j (List.mem_cons_of_mem _ hj)) r2 hr2 x hx
      exact key ps e.ps ih z.2.1 r' hr' x hx
theorem allRows_kinds {many : Nat} {t : Tb} (h : TbW many t) (p : Pr) : ∀ r, r ∈ allRows t p → r.length ≤ p.size ∧ ∀ x, x ∈ r → x < many := fun r hr => by
  unfold allRows at hr
  obtain ⟨k, hk, hr⟩ := List.mem_flatMap.mp hr
  exact ⟨rows_size t p k r hr, rows_kinds h p k (by rw [← h.m]; exact List.mem_range.mp hk) r hr⟩
/-! ### small data -/
theorem okDs_of : ∀ {ds : List D}, (∀ d, d ∈ ds → okD d) → okDs ds
  | [], _ => by rw [okDs]; trivial
  | d :: ds, h => by
    rw [okDs]
    exact ⟨h d (List.mem_cons_self ..), okDs_of fun e he => h e (List.mem_cons_of_mem _ he)⟩
theorem nns_le {b : Nat} : ∀ {ds : List D}, (∀ d, d ∈ ds → nn d ≤ b) → nns ds ≤ ds.length * b
  | [], _ => by rw [nns]; exact Nat.zero_le _
  | d :: ds, h => by
    have h1 := h d (List.mem_cons_self ..)
    have h2 := nns_le fun e he => h e (List.mem_cons_of_mem d he)
    rw [nns, List.length_cons, Nat.succ_mul]
    omega
theorem depthAll_le {b : Nat} : ∀ {ds : List D}, (∀ d, d ∈ ds → d.depth ≤ b) → PyData.depthAll ds ≤ b
  | [], _ => by rw [PyData.depthAll]; exact Nat.zero_le _
  | d :: ds, h => by
    rw [PyData.depthAll]
    exact Nat.max_le.mpr ⟨h d (List.mem_cons_self ..), depthAll_le fun e he => h e (List.mem_cons_of_mem _ he)⟩
/-- b nodes at most, c levels -/
structure Sb (b c : Nat) (d : D) : Prop where
  ok : okD d
  n : nn d ≤ b
  dp : d.depth ≤ c
theorem Sb.sm {b c : Nat} {d : D} (h : Sb b c d) (hb : b ≤ 100000) (hc : c ≤ 50) : Sm d := ⟨h.ok, Nat.le_trans h.n hb, Nat.le_trans h.dp hc⟩
theorem Sb.tup {b c : Nat} {ds : List D} (h : ∀ d, d ∈ ds → Sb b c d) {m : Nat} (hm : ds.length * b + 1 ≤ m) : Sb m (c + 1) (.tuple ds) := by
  refine ⟨by rw [okD]; exact okDs_of fun d hd => (h d hd).ok, ?_, ?_⟩
  · have := nns_le fun d hd => (h d hd).n
    rw [nn]
    omega
  · have := depthAll_le fun d hd => (h d hd).dp
    rw [PyData.depth]
    omega
theorem Sb.lst {b c : Nat} {ds : List D} (h : ∀ d, d ∈ ds → Sb b c d) {m : Nat} (hm : ds.length * b + 1 ≤ m) : Sb m (c + 1) (.list ds) := by
  refine ⟨by rw [okD]; exact okDs_of fun d hd => (h d hd).ok, ?_, ?_⟩
  · have := nns_le fun d hd => (h d hd).n
    rw [nn]
    omega
  · have := depthAll_le fun d hd => (h d hd).dp
    rw [PyData.depth]
    omega
theorem Sb.le {b b' c c' : Nat} {d : D} (h : Sb b c d) (hb : b ≤ b') (hc : c ≤ c') : Sb b' c' d := ⟨h.ok, Nat.le_trans h.n hb, Nat.le_trans h.dp hc⟩
theorem Sb.dN {n : Nat} (h : n < 10 ^ 15) : Sb 1 0 (dN n) := by
  refine ⟨by rw [okD]; exact h, by rw [nn]; exact Nat.le_refl _, by rw [PyData.depth]; exact Nat.le_refl _⟩
theorem Sb.none : Sb 1 0 PyData.none := ⟨by rw [okD]; trivial, by rw [nn]; exact Nat.le_refl _, by rw [PyData.depth]; exact Nat.le_refl _⟩
theorem Sb.tN {ns : List Nat} (h : ∀ n, n ∈ ns → n < 10 ^ 15) {m : Nat} (hm : ns.length + 1 ≤ m) : Sb m 1 (tN ns) := by
  refine Sb.tup (b := 1) (c := 0) (fun d hd => ?_) (by rw [List.length_map]; omega)
  obtain ⟨n, hn, rfl⟩ := List.mem_map.mp hd
  exact Sb.dN (h n hn)
theorem Sb.lN {ns : List Nat} (h : ∀ n, n ∈ ns → n < 10 ^ 15) {m : Nat} (hm : ns.length + 1 ≤ m) : Sb m 1 (.list (ns.map K3.dN)) := by
  refine Sb.lst (b := 1) (c := 0) (fun d hd => ?_) (by rw [List.length_map]; omega)
  obtain ⟨n, hn, rfl⟩ := List.mem_map.mp hd
  exact Sb.dN (h n hn)
theorem small15 {n m : Nat} (h : n < m) (hm : m ≤ 1000 := by omega) : n < 10 ^ 15 := Nat.lt_of_lt_of_le h (Nat.le_trans hm (by decide +kernel))
theorem Sb.en {many : Nat} {σ : List Nat} {e : En} (h4 : many ≤ 4) (h6 : σ.length ≤ 6) (h2 : ∀ s, s ∈ σ → s ≤ 2) (h : EnOk many σ e) : Sb 10 2 e.enc := by
  have hl := h.two h2
  refine Sb.tup (b := 3) (c := 1) (fun d hd => ?_) (Nat.le_of_eq rfl)
  simp only [List.mem_cons, List.not_mem_nil, or_false] at hd
  rcases hd with rfl | rfl | rfl
  · exact (Sb.dN (small15 h.lt)).le (by decide) (by decide)
  · exact Sb.tN (fun n hn => small15 (h.2.1 n hn)) (by omega)
  · exact (Sb.dN (small15 h.2.2)).le (by decide) (by decide)
theorem Sb.tb {many : Nat} {t : Tb} (h4 : many ≤ 4) (h : TbW many t) : Sb 1000 4 t.enc := by
  refine Sb.tup (b := 300) (c := 3) (fun d hd => ?_) (show 3 * 300 + 1 ≤ 1000 by decide)
  simp only [List.mem_cons, List.not_mem_nil, or_false] at hd
  have h6 := h.sl
  have hn := h.n
  rcases hd with rfl | rfl | rfl
  · exact (Sb.dN (small15 (m := 5) (by rw [h.m]; omega))).le (by decide) (by decide)
  · exact (Sb.tN (m := 10) (fun n hn => small15 (m := 5) (by have := h.s2 n hn; omega)) (by omega)).le (by decide) (by decide)
  · refine Sb.tup (b := 10) (c := 2) (fun d hd => ?_) (by rw [List.length_map]; omega)
    obtain ⟨e, he, rfl⟩ := List.mem_map.mp hd
    exact Sb.en h4 h.sl h.s2 (h.e e he)
theorem Sb.pr {n : Nat} (h6 : n ≤ 100) : ∀ p : Pr, p.AllS (fun s _ => s < n) → Sb (2 * p.size) p.depth p.enc := by
  intro p
  refine Pr.ind' (P := fun p => p.AllS (fun s _ => s < n) → Sb (2 * p.size) p.depth p.enc) (fun _ => by rw [Pr.size, Pr.depth, Pr.enc]; exact Sb.none.le (by decide) (by decide)) ?_ p
  intro s ps ih h
  rw [Pr.AllS] at h
  rw [Pr.enc_node]
  have key : ∀ ps : List Pr, (∀ p, p ∈ ps → Sb (2 * p.size) p.depth p.enc) → okDs (ps.map Pr.enc) ∧ nns (ps.map Pr.enc) ≤ 2 * Pr.sizes ps ∧ PyData.depthAll (ps.map Pr.enc) ≤ Pr.depths ps := by
    intro ps
    induction ps with
    | nil => intro _; exact ⟨by rw [List.map_nil, okDs]; trivial, by rw [List.map_nil, nns]; exact Nat.zero_le _, by rw [List.map_nil, PyData.depthAll]; exact Nat.zero_le _⟩
    | cons p ps ih =>
      intro hp
      obtain ⟨a1, a2, a3⟩ := ih fun q hq => hp q (List.mem_cons_of_mem _ hq)
      have hb := hp p (List.mem_cons_self ..)
      refine ⟨by rw [List.map_cons, okDs]; exact ⟨hb.ok, a1⟩, ?_, ?_⟩
      · have := hb.n
        rw [List.map_cons, nns, Pr.sizes]
        omega
      · have := hb.dp
        rw [List.map_cons, PyData.depthAll, Pr.depths]
        omega
  obtain ⟨a1, a2, a3⟩ := key ps fun p hp => ih p hp (Pr.allSs_mem h.2 hp)
  have hs : Sb 1 0 (K3.dN s) := Sb.dN (small15 h.1)
  refine ⟨?_, ?_, ?_⟩
  · rw [okD, okDs]
    exact ⟨hs.ok, a1⟩
  · have := hs.n
    rw [nn, nns, Pr.size]
    omega
  · have := hs.dp
    rw [PyData.depth, PyData.depthAll, Pr.depth]
    omega
theorem Sb.rows {many : Nat} {L : List (List Nat)} (h4 : many ≤ 4) (h : ∀ r, r ∈ L → r.length ≤ 10 ∧ ∀ x, x ∈ r → x < many) (hl : L.length ≤ 300) : Sb 10000 2 (.list (L.map K3.tN)) := by
  refine Sb.lst (b := 11) (c := 1) (fun d hd => ?_) (by rw [List.length_map]; omega)
  obtain ⟨r, hr, rfl⟩ := List.mem_map.mp hd
  obtain ⟨a, b⟩ := h r hr
  exact Sb.tN (fun n hn => small15 (b n hn)) (by omega)
theorem Sb.two {b c : Nat} {d e : D} (h1 : Sb b c d) (h2 : Sb b c e) : Sb (2 * b + 1) (c + 1) (.list [d, e]) := Sb.lst (fun x hx => by
  simp only [List.mem_cons, List.not_mem_nil, or_false] at hx
  rcases hx with rfl | rfl
  · exact h1
  · exact h2) (Nat.le_refl _)
end K3
end

section
set_option Elab.async false
set_option linter.all false
set_option autoImplicit false
set_option maxRecDepth 100000
set_option maxHeartbeats 2000000
/-! _law_goes_along -/
namespace K3
open PySem PySem.Spec PyProof.Rows L2
section
variable {P : Program} {w : World} {K : PySem.W.Frag} {mg : Str → Option Value} {base : Heap}
def spGoes : Spf := fun ds R => ∃ (many : Nat) (t : Tb) (p : Pr) (κ σ : List Nat), ds = [t.enc, p.enc, tN κ, tN σ] ∧ TbOk many 6 t ∧ many ≤ 4 ∧ PrOk t.signs p ∧ p.size ≤ 10 ∧ Pm many κ ∧ Pm t.signs.length σ ∧ R (.bool true)
abbrev n46 : List Str := ["_law_bag_here", "_law_table_here", "_law_program_here", "_law_kinds", "_law_signs_here", "_law_again", "_law_node", "_law_context", "_law_counts", "_law_along", "_law_due", "_law_other", "_law_its", "_law_reading", "_law_kind"]
theorem sc46 : FnScope n46 ["_law_bag_here", "_law_table_here", "_law_program_here", "_law_kinds", "_law_signs_here"] (defScope (top 46)) := ⟨rfl, rfl, rfl, by decide +kernel, rfl, by decide +kernel, by decide +kernel⟩
theorem ok_goes (T : Tx K mg) (hM : ∃ tk, mg "MOST_READINGS" = some (.int 5000 tk)) : FnN P w K mg base 28 "_law_goes_along" ["_law_bag_here", "_law_table_here", "_law_program_here", "_law_kinds", "_law_signs_here"] (spB K spGoes) := by
  obtain ⟨f, fd, F, hmg⟩ := T.top (x := "_law_goes_along") (j := 46) 35
  refine fnB_of F hmg sc46 (fun _ _ _ _ _ _ us hl => match us, hl with | [_, _, _, _, _], _ => rfl) (fun ds R h => by obtain ⟨_, _, _, _, _, rfl, _⟩ := h; rfl) fun cdv A outer s H E b ds R hr h => ?_
  obtain ⟨many, t, p, κ, σ, rfl, ht, h4, hp, hz, hκ, hσ, q⟩ := h
  have hw := ht.w (Nat.le_refl _)
  have ok : RdOk many t p := ⟨hw, h4, hp, hz⟩
  have ok' := ok.ren hκ hσ
  have hlt := prOk_lt hp
  have h6 := hw.sl
  have hd : p.depth ≤ 10 := Nat.le_trans p.depth_le_size hz
  have hin : p.AllS (fun s _ => s ∈ σ) := Pr.allS_mono (fun s _ h => hσ.mem.mpr h) p hlt
  have tk1 := hw.tok h4 hκ hσ
  have st : Sb 1000 4 t.enc := Sb.tb h4 hw
  have st' : Sb 1000 4 (renT κ σ t).enc := Sb.tb h4 ok'.w
  have sp : Sb 1000 10 p.enc := (Sb.pr (n := t.signs.length) (by omega) p hlt).le (by omega) hd
  have sp' : Sb 1000 10 (p.ren σ).enc := (Sb.pr (n := (renT κ σ t).signs.length) (by rw [ren_many, hσ.len]; omega) (p.ren σ) (prOk_lt ok'.pr)).le (by rw [Pr.ren_size]; omega) (by rw [Pr.ren_depth]; exact hd)
  have hnt : ∀ {Q : D → Prop}, (R (.bool true) → Q (.bool true)) → Q (.bool true) := fun h => h q
  refine wss_cons (ws_par2 11 12 sc46.nd (wva_cons (wv_dat (w_call (ok_renT T) hr (by decide) (wa_cons (w_var 1 rfl (wa_cons (w_var 3 rfl (wa_cons (w_var 4 rfl (wa_nil ⟨t, κ, σ, rfl, tk1, wva_cons (wv_dat (w_call (ok_renP T 10) hr (by decide) (wa_cons (w_var 2 rfl (wa_cons (w_var 4 rfl (wa_nil ⟨p, σ, rfl, hd, by omega, hin, wva_nil ⟨rfl, fun _ => ?_⟩⟩)))))))⟩)))))))))))
  refine wss_cons (ws_if (wt_not (wt_val (w_call (ok_alike T) hr (by decide) (wa_cons (w_lst (wa_cons (w_var 11 rfl (wa_cons (w_var 12 rfl (wa_nil ⟨szl (Nat.le_of_ble_eq_true rfl), wa_cons (w_lst (wa_cons (w_call (ok_ledT T) hr (by decide) (wa_cons (w_var 1 rfl (wa_cons (w_var 3 rfl (wa_cons (w_var 4 rfl (wa_nil ⟨t, κ, σ, rfl, tk1, wa_cons (w_call (ok_ledP T 10) hr (by decide) (wa_cons (w_var 2 rfl (wa_cons (w_var 4 rfl (wa_nil ⟨p, σ, rfl, hd, by omega, hp.2, hin, wa_nil ⟨szl (Nat.le_of_ble_eq_true rfl), wa_nil ⟨_, rfl, ((st'.le (Nat.le_refl _) (by decide)).two sp').sm (by decide) (by decide), true, rfl, wss_nil fun _ => ?_⟩⟩⟩))))))⟩))))))))))⟩)))))))))))
  have kl : κ.length ≤ 100 := by rw [hκ.len]; omega
  have sl : σ.length ≤ 100 := by rw [hσ.len]; omega
  have km : ∀ k, k < κ.length → k ∈ κ := fun k hk => hκ.mem.mpr (by rw [← hκ.len]; exact hk)
  have sm : ∀ k, k < σ.length → k ∈ σ := fun k hk => hσ.mem.mpr (by rw [← hσ.len]; exact hk)
  have hσ2 : Pm (renT κ σ t).signs.length (bk σ) := by rw [ren_many, hσ.len]; exact hσ.bkp
  have tk2 : TOk (renT κ σ t) (bk κ) (bk σ) := ok'.w.tok h4 hκ.bkp hσ2
  have hin2 : (p.ren σ).AllS (fun s _ => s ∈ bk σ) := Pr.allS_mono (fun s _ h => hσ2.mem.mpr h) (p.ren σ) (prOk_lt ok'.pr)
  have hd' : (p.ren σ).depth ≤ 10 := by rw [Pr.ren_depth]; exact hd
  have hz' : (p.ren σ).size ≤ 1000 := by rw [Pr.ren_size]; omega
  have hc3 : Sm (.list [t.enc, p.enc]) := ((st.le (Nat.le_refl _) (by decide)).two sp).sm (by decide) (by decide)
  refine wss_cons (ws_set 5 sc46.nd (w_lst (wa_cons (w_call (ok_renT T) hr (by decide) (wa_cons (w_var 11 rfl (wa_cons (w_call (ok_back T) hr (by decide) (wa_cons (w_var 3 rfl (wa_nil ⟨κ, rfl, kl, km, wa_cons (w_call (ok_back T) hr (by decide) (wa_cons (w_var 4 rfl (wa_nil ⟨σ, rfl, sl, sm, wa_nil ⟨renT κ σ t, bk κ, bk σ, rfl, tk2, ?_⟩⟩))))⟩)))))))))))
  rw [renT_back hw hκ hσ]
  refine wa_cons (w_call (ok_renP T 10) hr (by decide) (wa_cons (w_var 12 rfl (wa_cons (w_call (ok_back T) hr (by decide) (wa_cons (w_var 4 rfl (wa_nil ⟨σ, rfl, sl, sm, wa_nil ⟨p.ren σ, bk σ, rfl, hd', hz', hin2, ?_⟩⟩))))))))
  rw [Pr.ren_back hσ p hlt]
  refine wa_nil ⟨szl (Nat.le_of_ble_eq_true rfl), fun _ => ?_⟩
  refine wss_cons (ws_if (wt_not (wt_val (w_call (ok_alike T) hr (by decide) (wa_cons (w_var 5 rfl (wa_cons (w_lst (wa_cons (w_var 1 rfl (wa_cons (w_var 2 rfl (wa_nil ⟨szl (Nat.le_of_ble_eq_true rfl), wa_nil ⟨_, rfl, hc3, true, rfl, wss_nil fun _ => ?_⟩⟩)))))))))))))
  refine wss_cons (ws_set 6 sc46.nd (w_callB' 0 (ok_take T) hr (by decide) rfl (wa_cons (w_call (ok_size T 10) hr (by decide) (wa_cons (w_var 2 rfl (wa_nil ⟨p, rfl, hd, by omega, wa_nil ⟨p.size, rfl, p.size_pos, by omega, fun v hv => fun _ => ?_⟩⟩)))))))
  have ec : (p.put v .hole).ren σ = (p.ren σ).put v .hole := by rw [Pr.ren_put, Pr.ren]
  have ps1 := Pr.put_size p v
  have pd1 : (p.put v .hole).depth ≤ 10 := Nat.le_trans (Pr.depth_le_size _) (by omega)
  have hinp : (p.put v .hole).AllS (fun s _ => s ∈ σ) := Pr.put_allS p v hin
  refine wss_cons (ws_set 7 sc46.nd (w_call (ok_renP T 10) hr (by decide) (wa_cons (w_call (ok_put T 10) hr (by decide) (wa_cons (w_var 2 rfl (wa_cons (w_var 6 rfl (wa_cons (w_none (wa_nil ⟨p, .hole, v, by rw [Pr.enc], hd, by omega, hv, wa_cons (w_var 4 rfl (wa_nil ⟨p.put v .hole, σ, rfl, pd1, by omega, hinp, fun _ => ?_⟩))⟩)))))))))))
  rw [ec]
  have hlt3 : ((p.ren σ).put v .hole).AllS (fun s _ => s < (renT κ σ t).signs.length) := Pr.put_allS (p.ren σ) v (prOk_lt ok'.pr)
  have ps2 := Pr.put_size (p.ren σ) v
  rw [Pr.ren_size] at ps2
  have pd2 := Pr.depth_le_size ((p.ren σ).put v .hole)
  have sp3 : Sb 1000 10 ((p.ren σ).put v .hole).enc := (Sb.pr (n := (renT κ σ t).signs.length) (by rw [ren_many]; exact sl) _ hlt3).le (by omega) (by omega)
  refine wss_cons (ws_if (wt_not (wt_val (w_call (ok_alike T) hr (by decide) (wa_cons (w_var 7 rfl (wa_cons (w_call (ok_put T 10) hr (by decide) (wa_cons (w_call (ok_ledP T 10) hr (by decide) (wa_cons (w_var 2 rfl (wa_cons (w_var 4 rfl (wa_nil ⟨p, σ, rfl, hd, by omega, hp.2, hin, wa_cons (w_var 6 rfl (wa_cons (w_none (wa_nil ⟨p.ren σ, .hole, v, by rw [Pr.enc], hd', hz', by rw [Pr.ren_size]; exact hv, wa_nil ⟨_, rfl, sp3.sm (by decide) (by decide), true, rfl, wss_nil fun _ => ?_⟩⟩))))⟩)))))))))))))))
  refine wss_cons (ws_set 8 sc46.nd (w_call (ok_many T) hr (by decide) (wa_cons (w_var 1 rfl (wa_cons (w_var 2 rfl (wa_cons (w_dnew (wa_nil ⟨many, t, p, rfl, ok, fun _ => ?_⟩)))))))))
  have hkm : ∀ k, k ∈ κ → k < many := fun k hk => hκ.mem.mp hk
  have ecnt : (List.range (renT κ σ t).many).map (cnt (renT κ σ t) (p.ren σ)) = κ.map (cnt t p) := by
    rw [show (renT κ σ t).many = many from hw.m, ← hκ.map_get]
    exact List.map_congr_left fun j hj => by
      have hj := List.mem_range.mp hj
      have z := cnt_ren hw hκ hσ p hlt (κ.getD j 0) (hκ.lt hj)
      rwa [hκ.idx_get hj] at z
  have sc1 : Sb 10 1 (tN (κ.map (cnt t p))) := Sb.tN (fun n hn => by
    obtain ⟨k, hk, rfl⟩ := List.mem_map.mp hn
    exact Nat.lt_of_le_of_lt (cnt_big hw hz k) (by decide)) (by rw [List.length_map, hκ.len]; omega)
  refine wss_cons (ws_if (wt_not (wt_val (w_call (ok_alike T) hr (by decide) (wa_cons (w_call (ok_many T) hr (by decide) (wa_cons (w_var 11 rfl (wa_cons (w_var 12 rfl (wa_cons (w_dnew (wa_nil ⟨many, renT κ σ t, p.ren σ, rfl, ok', ?_⟩)))))))))))))
  rw [ecnt]
  refine wa_cons (w_tuple T (w_lcN 14 [("_law_kind", 14)] sc46.nd (blkOk_by (N := n46) (sc := defScope (top 46)) (by decide +kernel)) (idle1 rfl) (wi_tup (w_var 3 rfl ⟨_, rfl, ?_⟩))))
  refine lcq_map κ dN (fun k => dN (cnt t p k)) (slt (by omega)) (fun k hk => ⟨_, rfl, fun s H C cl fp => w_ix (w_var 8 rfl (w_var 14 rfl (xd_tup (d := dN (cnt t p k)) (by rw [hw.m, List.getElem?_map, List.getElem?_map, List.getElem?_range (hkm k hk)]; rfl) rfl)))⟩) ⟨_, rfl, ?_⟩
  have e1 : κ.map (fun k => dN (cnt t p k)) = (κ.map (cnt t p)).map dN := by rw [List.map_map]; rfl
  rw [e1]
  refine wa_nil ⟨_, rfl, sc1.sm (by decide) (by decide), true, rfl, wss_nil fun _ => ?_⟩
  -- made kinds
  have hml : ∀ k, k ∈ madeL t → k < many := fun k hk => by
    unfold madeL at hk
    rw [← hw.m]
    exact List.mem_range.mp (List.mem_filter.mp hk).1
  have hml2 : ∀ k, k ∈ madeL (renT κ σ t) → k < many := fun k hk => by
    unfold madeL at hk
    have := List.mem_range.mp (List.mem_filter.mp hk).1
    rwa [show (renT κ σ t).many = many from hw.m] at this
  have hmn : (madeL t).length ≤ 4 := by
    unfold madeL
    refine Nat.le_trans (List.length_filter_le _ _) ?_
    rw [List.length_range, hw.m]
    exact h4
  have hmn2 : (madeL (renT κ σ t)).length ≤ 4 := by
    unfold madeL
    refine Nat.le_trans (List.length_filter_le _ _) ?_
    rw [List.length_range, show (renT κ σ t).many = many from hw.m]
    exact h4
  have sc2 : Sb 10 1 (.list ((madeL (renT κ σ t)).map dN)) := Sb.lN (fun n hn => small15 (m := 5) (by have := hml2 n hn; omega)) (by omega)
  refine wss_cons (ws_if (wt_not (wt_val (w_call (ok_alike T) hr (by decide) (wa_cons (w_call (ok_madeK T) hr (by decide) (wa_cons (w_var 11 rfl (wa_nil ⟨many, renT κ σ t, rfl, ok'.w, h4, ?_⟩)))))))))
  refine wa_cons (w_sorted T hr dN (fun _ _ => rfl) (.inr fun x => ⟨fun z => (nomatch z), fun _ z => (nomatch z)⟩) (w_lcN 14 [("_law_kind", 14)] sc46.nd (blkOk_by (N := n46) (sc := defScope (top 46)) (by decide +kernel)) (idle1 rfl) (wi_list (w_call (ok_madeK T) hr (by decide) (wa_cons (w_var 1 rfl (wa_nil ⟨many, t, rfl, hw, h4, _, rfl, ?_⟩)))))))
  refine lcq_map (madeL t) dN (fun k => dN (κ.idxOf k)) (slt (by omega)) (fun k hk => ⟨_, rfl, fun s H C cl fp => w_indexN (w_var 3 rfl ⟨κ, rfl, w_var 14 rfl ⟨k, rfl, hκ.mem.mpr (hml k hk), rfl⟩⟩)⟩) ⟨(madeL t).map κ.idxOf, by rw [List.map_map]; rfl, fun x _ => ⟨rfl, Nat.zero_le _⟩, by rw [List.length_map]; omega, ?_⟩
  rw [madeL_ren hw hκ hσ]
  refine wa_nil ⟨_, rfl, sc2.sm (by decide) (by decide), true, rfl, wss_nil fun _ => ?_⟩
  -- the node without a reading
  have so : Sb 1 0 (optN (unread t p)) := by
    cases e : unread t p with
    | none => exact Sb.none
    | some n =>
      refine Sb.dN (small15 (m := 10) ?_)
      unfold unread at e
      split at e
      · cases e
      · have := List.mem_range.mp (List.mem_of_find?_eq_some e)
        omega
  refine wss_cons (ws_if (wt_not (wt_val (w_call (ok_alike T) hr (by decide) (wa_cons (w_call (ok_unread T) hr (by decide) (wa_cons (w_var 11 rfl (wa_cons (w_var 12 rfl (wa_nil ⟨many, renT κ σ t, p.ren σ, rfl, ok', ?_⟩)))))))))))
  rw [unread_ren hw hκ hσ hlt]
  refine wa_cons (w_call (ok_unread T) hr (by decide) (wa_cons (w_var 1 rfl (wa_cons (w_var 2 rfl (wa_nil ⟨many, t, p, rfl, ok, wa_nil ⟨_, rfl, so.sm (by decide) (by decide), true, rfl, wss_nil fun _ => ?_⟩⟩))))))
  -- how many readings
  refine wss_cons (ws_if (wt_cmp (w_sumN T (w_var 8 rfl ⟨(List.range t.many).map (cnt t p), .inr rfl, w_int (od_gt ⟨_, rfl, ite_dec (fun c => ?_) fun c => wss_nil fun _ => ?_⟩)⟩))))
  · exact wss_one (ws_ret (w_bool ⟨q, _, rfl, BagLike.bag⟩))
  have hle : cntS t p ≤ 300 := by
    have c' : ¬ ((300 : Int) < ((cntS t p : Nat) : Int)) := c
    omega
  have hLm : ∀ r, r ∈ srt tN (allRows t p) → r.length ≤ 10 ∧ ∀ x, x ∈ r → x < many := fun r hr => by
    obtain ⟨a, b⟩ := allRows_kinds hw p r ((srt_perm _).mem_iff.mp hr)
    exact ⟨by omega, b⟩
  have hLl : (srt tN (allRows t p)).length ≤ 300 := by
    rw [(srt_perm _).length_eq, allRows_len]
    exact hle
  have hle2 : cntS (renT κ σ t) (p.ren σ) ≤ 300 := by rw [cntS_ren hw hκ hσ hlt]; exact hle
  have hLm2 : ∀ r, r ∈ (srt tN (allRows t p)).map (renR κ) → r.length ≤ 10 ∧ ∀ x, x ∈ r → x < many := fun r hr => by
    obtain ⟨r0, h0, rfl⟩ := List.mem_map.mp hr
    obtain ⟨a, b⟩ := hLm r0 h0
    refine ⟨by unfold renR; rw [List.length_map]; exact a, fun x hx => ?_⟩
    obtain ⟨y, hy, rfl⟩ := List.mem_map.mp hx
    exact hκ.ilt (b y hy)
  refine wss_cons (ws_lcN 9 13 [("_law_reading", 13)] sc46.nd (blkOk_by (N := n46) (sc := defScope (top 46)) (by decide +kernel)) (idle1 rfl) (wi_list (w_call (ok_of T hM) hr (by decide) (wa_cons (w_var 1 rfl (wa_cons (w_var 2 rfl (wa_cons (w_dnew (wa_nil ⟨many, t, p, rfl, ok, hle, _, rfl, ?_⟩))))))))))
  refine lcq_map (srt tN (allRows t p)) tN (fun r => tN (renR κ r)) (slt (by omega)) (fun r hr2 => ⟨_, rfl, fun s H C cl fp => w_call (ok_renR T) hr (by decide) (wa_cons (w_var 13 rfl (wa_cons (w_var 3 rfl (wa_nil ⟨r, κ, rfl, by have := (hLm r hr2).1; omega, fun k hk => hκ.mem.mpr ((hLm r hr2).2 k hk), rfl⟩)))))⟩) (fun _ => ?_)
  have e2 : (srt tN (allRows t p)).map (fun r => tN (renR κ r)) = ((srt tN (allRows t p)).map (renR κ)).map tN := by rw [List.map_map]; rfl
  rw [e2]
  refine wss_frz 9 rfl ?_
  refine wss_cons (ws_lcN 10 13 [("_law_reading", 13)] sc46.nd (blkOk_by (N := n46) (sc := defScope (top 46)) (by decide +kernel)) (idle1 rfl) (wi_list (w_call (ok_readings T) hr (by decide) (wa_cons (w_var 1 rfl (wa_cons (w_var 2 rfl (wa_nil ⟨many, 6, t, p, rfl, ht, h4, hp, hz, hle, _, rfl, ?_⟩))))))))
  refine lcq_map (srt tN (allRows t p)) tN (fun r => tN (renR κ r)) (slt (by omega)) (fun r hr2 => ⟨_, rfl, fun s H C cl fp => w_tuple T (w_lcN 14 [("_law_kind", 14)] sc46.nd (BlkOk.re (blkOk_by (N := n46) (by decide +kernel))) (idle1 rfl) (wi_tup (w_var 13 rfl ⟨_, rfl, lcq_map r dN (fun k => dN (κ.idxOf k)) (slt (by have := (hLm r hr2).1; omega)) (fun k hk => ⟨_, rfl, fun s H C cl fp => w_indexN (w_var 3 rfl ⟨κ, rfl, w_var 14 rfl ⟨k, rfl, hκ.mem.mpr ((hLm r hr2).2 k hk), rfl⟩⟩)⟩) ⟨_, rfl, by unfold renR tN; rw [List.map_map]; rfl⟩⟩)))⟩) (fun _ => ?_)
  rw [e2]
  refine wss_frz 10 rfl ?_
  have sr : Sb 10000 2 (.list (((srt tN (allRows t p)).map (renR κ)).map tN)) := Sb.rows h4 hLm2 (by rw [List.length_map]; exact hLl)
  refine wss_one (ws_ret (w_and (w_call (ok_alike T) hr (by decide) (wa_cons (w_var 9 rfl (wa_cons (w_var 10 rfl (wa_nil ⟨_, rfl, sr.sm (by decide) (by decide), true, rfl, ?_⟩))))))))
  rw [if_pos rfl]
  refine w_one (w_call (ok_alike T) hr (by decide) (wa_cons (w_call (ok_of T hM) hr (by decide) (wa_cons (w_var 11 rfl (wa_cons (w_var 12 rfl (wa_cons (w_dnew (wa_nil ⟨many, renT κ σ t, p.ren σ, rfl, ok', hle2, ?_⟩))))))))))
  rw [readings_ren hw hκ hσ hlt]
  have hLm3 : ∀ r, r ∈ srt tN ((srt tN (allRows t p)).map (renR κ)) → r.length ≤ 10 ∧ ∀ x, x ∈ r → x < many := fun r hr => hLm2 r ((srt_perm _).mem_iff.mp hr)
  have sr3 : Sb 10000 2 (.list ((srt tN ((srt tN (allRows t p)).map (renR κ))).map tN)) := Sb.rows h4 hLm3 (by rw [(srt_perm _).length_eq, List.length_map]; exact hLl)
  refine wa_cons (w_sortedL T hr tN (w_var 9 rfl ⟨(srt tN (allRows t p)).map (renR κ), rfl, alike_rows _, sortable_rows _ fun r hrm => ?_, fun x _ => ⟨nodict_tN x, by rw [depth_tN]; decide⟩, by rw [List.length_map]; omega, ?_⟩))
  · obtain ⟨r0, h0, rfl⟩ := List.mem_map.mp hrm
    obtain ⟨k, _, hk⟩ := List.mem_flatMap.mp ((srt_perm _).mem_iff.mp h0)
    obtain ⟨r', rfl⟩ := rows_ne hk
    exact List.cons_ne_nil _ _
  · exact wa_nil ⟨_, rfl, sr3.sm (by decide) (by decide), q, _, rfl, BagLike.bag⟩
end
end K3
end

section
set_option Elab.async false
set_option linter.all false
set_option autoImplicit false
set_option maxRecDepth 100000
set_option maxHeartbeats 2000000
/-! Dicts keyed by nested tuples. -/
namespace K3
open PySem PySem.Spec PyProof.Rows L2
abbrev Nx := List (NestedKey × Addr × Addr)
def RawN (w : World) (h : Heap) (d : Addr) (ep : Nat) (xs : Nx) : Prop := (d == sysModules) = false ∧ ∃ o es, h.get? d = some o ∧ o.ExactDict ∧ o.data = .dict es ep ∧ es.toList = xs.map (fun x => (⟨x.1.hash w, .ref x.2.1, .ref x.2.2⟩ : DictEntry)) ∧ (xs.map (·.1)).Nodup
def DicN (w : World) (d : Addr) (ep : Nat) (xs : Nx) : HO := .ext fun h => RawN w h d ep xs
def toX (xs : Nx) : List (NestedKey × Addr × Value) := xs.map fun x => (x.1, x.2.1, Value.ref x.2.2)
section
variable {P : Program} {w : World} {K : PySem.W.Frag} {h : Heap} {H : Hp} {d : Addr} {ep : Nat} {xs : Nx}
theorem dicN_new (R : RawN w h d ep xs) : ObjOk P w H h d (DicN w d ep xs) := by
  refine ⟨R, ?_, fun h1 h2 p k => ?_⟩
  · obtain ⟨_, o, es, go, _⟩ := R
    exact ⟨o, go⟩
  · obtain ⟨z, o, es, go, r⟩ := p
    exact ⟨z, o, es, k _ go, r⟩
theorem RawN.dict (R : RawN w h d ep xs) (hk : ∀ x, x ∈ xs → (nestedKind P w).is h x.1 x.2.1) : h.DictOfH (nestedKind P w) d (toX xs) := by
  obtain ⟨_, o, es, go, hc, hd, he, nd⟩ := R
  refine ⟨o, es, ep, go, hc, hd, ?_, fun x hx => ?_, ?_⟩
  · rw [he, toX, List.map_map]
    rfl
  · obtain ⟨y, hy, rfl⟩ := List.mem_map.mp hx
    exact hk y hy
  · rw [toX, List.map_map]
    exact nd
theorem RawN.of (hs : (d == sysModules) = false) (R : h.DictOfH (nestedKind P w) d (toX xs)) : ∃ ep, RawN w h d ep xs := by
  obtain ⟨o, es, ep, go, hc, hd, he, _, nd⟩ := R
  refine ⟨ep, hs, o, es, go, hc, hd, ?_, ?_⟩
  · rw [he, toX, List.map_map]
    rfl
  · rw [toX, List.map_map] at nd
    exact nd
/-- what the keys and the values are -/
inductive IsN (K : PySem.W.Frag) (F : Hp) : Nx → List (D × D) → Prop
  | nil : IsN K F [] []
  | cons {b a : Addr} {k v : D} {xs : Nx} {ks : List (D × D)} : Is K F (.ref b) k → numD k → k.depth ≤ 8 → Is K F (.ref a) v → IsN K F xs ks → IsN K F ((keyD k, b, a) :: xs) ((k, v) :: ks)
theorem IsN.mono {F F' : Hp} (e : Ex F F') : ∀ {xs : Nx} {ks : List (D × D)}, IsN K F xs ks → IsN K F' xs ks
  | _, _, .nil => .nil
  | _, _, .cons h1 h2 h3 h4 t => .cons (h1.mono e) h2 h3 (h4.mono e) (IsN.mono e t)
theorem IsN.len {F : Hp} : ∀ {xs : Nx} {ks : List (D × D)}, IsN K F xs ks → xs.length = ks.length
  | _, _, .nil => rfl
  | _, _, .cons _ _ _ _ t => by rw [List.length_cons, List.length_cons, IsN.len t]
theorem IsN.snoc {F : Hp} {b a : Addr} {k v : D} (h1 : Is K F (.ref b) k) (h2 : numD k) (h3 : k.depth ≤ 8) (h4 : Is K F (.ref a) v) : ∀ {xs : Nx} {ks : List (D × D)}, IsN K F xs ks → IsN K F (xs ++ [(keyD k, b, a)]) (ks ++ [(k, v)])
  | _, _, .nil => .cons h1 h2 h3 h4 .nil
  | _, _, .cons g1 g2 g3 g4 t => .cons g1 g2 g3 g4 (IsN.snoc h1 h2 h3 h4 t)
theorem IsN.at_ {F : Hp} : ∀ {xs : Nx} {ks : List (D × D)} {i : Nat} {p : D × D}, IsN K F xs ks → ks[i]? = some p → ∃ b a, xs[i]? = some (keyD p.1, b, a) ∧ Is K F (.ref b) p.1 ∧ numD p.1 ∧ p.1.depth ≤ 8
  | _, _, i, p, .nil, h => by simp at h
  | _, _, 0, p, .cons h1 h2 h3 h4 t, h => by
    rw [List.getElem?_cons_zero] at h
    obtain rfl := Option.some.inj h
    exact ⟨_, _, rfl, h1, h2, h3⟩
  | _, _, i + 1, p, .cons h1 h2 h3 h4 t, h => by
    rw [List.getElem?_cons_succ] at h
    obtain ⟨b, a, z⟩ := IsN.at_ t h
    exact ⟨b, a, by rw [List.getElem?_cons_succ]; exact z.1, z.2⟩
theorem IsN.find {F : Hp} {k : D} (hk : numD k) : ∀ {xs : Nx} {ks : List (D × D)}, IsN K F xs ks → (∃ b a v, atKey (toX xs) (keyD k) = some (b, .ref a) ∧ (k, v) ∈ ks ∧ Is K F (.ref a) v) ∨ (atKey (toX xs) (keyD k) = none ∧ ∀ p, p ∈ ks → p.1 ≠ k)
  | _, _, .nil => .inr ⟨rfl, fun _ h => nomatch h⟩
  | _, _, .cons (b := b) (a := a) (k := k0) (v := v) (xs := xs) (ks := ks) h1 h2 h3 h4 t => by
    by_cases e : k0 = k
    · subst e
      refine .inl ⟨b, a, v, ?_, List.mem_cons_self .., h4⟩
      unfold toX atKey
      rw [List.map_cons, List.find?_cons, decide_eq_true rfl]
      rfl
    · have ne : ¬ keyD k0 = keyD k := fun z => e (keyD_inj _ _ h2 hk z)
      have en : atKey (toX ((keyD k0, b, a) :: xs)) (keyD k) = atKey (toX xs) (keyD k) := by
        unfold toX atKey
        rw [List.map_cons, List.find?_cons, decide_eq_false ne]
      rw [en]
      rcases IsN.find hk t with ⟨b', a', v', z1, z2, z3⟩ | ⟨z1, z2⟩
      · exact .inl ⟨b', a', v', z1, List.mem_cons_of_mem _ z2, z3⟩
      · refine .inr ⟨z1, fun p hp => ?_⟩
        rcases List.mem_cons.mp hp with rfl | hp
        · exact e
        · exact z2 p hp
end
section
variable {X : Cx} {pins : List (Addr × Obj)} {σ : L2.St} {H F : Hp} {s : Shared}
theorem isK_of {b : Addr} {k : D} (I : Inv X pins σ H s) (h : Is X.K F (.ref b) k) (e : Ex F H) (hn : numD k) (hd : k.depth ≤ 8) : (nestedKind X.prog X.w).is s.heap (keyD k) b :=
  ⟨(h.mono e).nest I hn _ rfl, by rw [keyD_depth k hn]; exact hd⟩
theorem IsN.is (I : Inv X pins σ H s) (e : Ex F H) : ∀ {xs : Nx} {ks : List (D × D)}, IsN X.K F xs ks → ∀ x, x ∈ xs → (nestedKind X.prog X.w).is s.heap x.1 x.2.1
  | _, _, .nil, x, h => nomatch h
  | _, _, .cons h1 h2 h3 h4 t, x, h => by
    rcases List.mem_cons.mp h with rfl | h
    · exact isK_of I h1 e h2 h3
    · exact IsN.is I e t x h
theorem dicN_at {d : Addr} {ep : Nat} {xs : Nx} (I : Inv X pins σ H s) (h : H d = some (DicN X.w d ep xs)) : RawN X.w s.heap d ep xs := (I.hok d _ h).1
end
section
variable {X : Cx} {pos : Pos} {o e f : Expr} {td ty tx : TE} {apos cpos : Pos}
theorem pe_dnewN : PE X (.Dict [] [] pos) (fun _ H Q => ∀ p, H p = none → Q (.ref p) (upd H p (DicN X.w p 0 []))) := ⟨fun pins s σ H Q I h =>
  wpAny_Dict_empty ⟨.ref s.heap.objs.size, _, I.laid (a := s.heap.objs.size) (o := DicN X.w s.heap.objs.size 0 []) (t' := s.toks) (fun _ _ q => Heap.get?_push_of_some _ q) (Nat.le_refl _)
    (dicN_new ⟨beq_eq_false_iff_ne.mpr (Ne.symm (Nat.ne_of_lt I.big)), _, #[], Heap.get?_push_size _ rfl, ⟨rfl, rfl, rfl⟩, rfl, rfl, List.nodup_nil⟩), rfl, h _ (I.hok.fresh (Nat.le_refl _))⟩⟩
/-- d.setdefault(k, v) -/
def tSetdN (K : PySem.W.Frag) (w : World) (td ty tx : TE) : TE := fun σ H Q => td σ H fun x H1 => ∃ d, x = .ref d ∧ (∃ ep xs, H1 d = some (DicN w d ep xs)) ∧ ty σ H1 fun y H2 => tx σ H2 fun z H3 =>
  ∃ (ep : Nat) (xs : Nx) (ks : List (D × D)) (k : D) (b a : Addr) (F : Hp), y = .ref b ∧ z = .ref a ∧ H3 d = some (DicN w d ep xs) ∧ Ex F H3 ∧ IsN K F xs ks ∧ Is K F (.ref b) k ∧ numD k ∧ k.depth ≤ 8 ∧ xs.length < 1000 ∧
  (∀ a', Q (.ref a') H3) ∧ ∀ ep', Q z (upd H3 d (DicN w d ep' (xs ++ [(keyD k, b, a)])))
theorem pe_setdN (hu : X.A.units + 64 < cLine) (ho : PE X o td) (he : PE X e ty) (hf : PE X f tx) (m : M2 X o "setdefault" apos e f cpos) : PE X (.Call (.Attribute o "setdefault" apos) [e, f] [] cpos) (tSetdN X.K X.w td ty tx) := by
  refine ⟨fun pins s σ H Q I h => ?_⟩
  refine wpAny_Call_method m.base m.few m.line PySem.F.plainAttrs_dict PySem.F.slot_dict_setdefault PySem.F.type_dict_setdefault (thn (ho.run pins s σ H _ I h) fun u s1 ⟨x, H1, I1, rx, d, ex, ⟨ep0, xs0, hd0⟩, q1⟩ => ?_)
  subst ex
  obtain rfl : u = Value.ref d := rx
  obtain ⟨_, ob, es0, go, hc, _⟩ := dicN_at I1 hd0
  refine ⟨⟨ob, go, hc.1⟩, fun b q => by cases q; exact ⟨ob, go, hc.2.1⟩, ?_⟩
  rw [m.trees]
  refine Calls.callWith_builtin rfl (Calls.evalArgs_plain (Calls.spliced_cons (thn (he.run pins s1 σ H1 _ I1 q1) fun iv s2 ⟨y, H2, I2, ry, q2⟩ =>
    Calls.spliced_cons (thn (hf.run pins s2 σ H2 _ I2 q2) fun fv s3 ⟨z, H3, I3, rz, ep, xs, ks, k, b, a, F, ey, ez, hd, ef, isn, ib, hn, hdp, hl, q3, q4⟩ => Calls.spliced_nil ?_))))
  subst ey ez
  cases ry
  cases rz
  have R := dicN_at I3 hd
  refine call_setdefault_heap (knd := nestedKind X.prog X.w) (hsz := ?_) ?_ (isK_of I3 ib ef hn hdp) R.1 (R.dict (isn.is I3 ef)) (fun p hp => ?_) fun hn' h' hm' sb => ?_
  · show _ + 8 < cLine
    simp only [Around.in1_units] <;> omega
  · rcases isn.find hn with ⟨b', a', v', z1, z2, z3⟩ | ⟨z1, z2⟩
    · rw [z1] at hp
      obtain rfl := Option.some.inj hp
      exact ⟨.ref a', H3, I3.tok _, rfl, q3 a'⟩
    · rw [z1] at hp
      cases hp
  · rw [storedH_new hn'] at hm'
    have e1 : toX xs ++ [(keyD k, b, Value.ref a)] = toX (xs ++ [(keyD k, b, a)]) := by
      unfold toX
      rw [List.map_append]
      rfl
    rw [e1] at hm'
    obtain ⟨ep', R'⟩ := RawN.of R.1 hm'
    obtain ⟨_, o', _, go', _⟩ := id R'
    exact ⟨.ref a, _, I3.write (e := d) (by rw [hd]; trivial) (.inl rfl) (fun b u hb hu => (sb.2 b hb).trans hu) ⟨o', go'⟩ (dicN_new R'), rfl, q4 ep'⟩
  · unfold toX
    rw [List.length_map]
    exact Nat.le_trans (Nat.le_of_lt hl) (by decide)
/-- d[k] -/
theorem pe_dgetN {pos : Pos} (hu : X.A.units + 64 < cLine) (ho : PE X o td) (hi : PE X e ty) (hs : NoSl e) : PE X (.Subscript o e pos) (fun σ H Q => td σ H fun x H1 => ty σ H1 fun y H2 => ∃ (d : Addr) (ep : Nat) (xs : Nx) (ks : List (D × D)) (k : D) (b : Addr) (F : Hp), x = .ref d ∧ y = .ref b ∧ H2 d = some (DicN X.w d ep xs) ∧ Ex F H2 ∧ IsN X.K F xs ks ∧ Is X.K F (.ref b) k ∧ numD k ∧ k.depth ≤ 8 ∧ k ∈ ks.map (·.1) ∧ ∀ a v, (k, v) ∈ ks → Is X.K F (.ref a) v → Q (.ref a) H2) := by
  refine ⟨fun pins s σ H Q I h => ?_⟩
  refine subD_of PySem.F.slot_dict_getitem.lookup hs (thn (ho.run pins s σ H _ I h) fun u s1 ⟨x, H1, I1, rx, q1⟩ => thn (hi.run pins s1 σ H1 _ I1 q1) fun iv s2 ⟨y, H2, I2, ry, d, ep, xs, ks, k, b, F, ex, ey, hd, ef, isn, ib, hn, hdp, hin, q⟩ => ?_)
  subst ex ey
  obtain rfl : u = Value.ref d := rx
  cases ry
  have R := dicN_at I2 hd
  obtain ⟨_, ob, es0, go, hc, _⟩ := id R
  refine ⟨⟨ob, go, hc.1⟩, ?_⟩
  rcases isn.find hn with ⟨b', a', v', z1, z2, z3⟩ | ⟨z1, z2⟩
  · refine wpAny_getItem_heap (knd := nestedKind X.prog X.w) ?_ (isK_of I2 ib ef hn hdp) (R.dict (isn.is I2 ef)) z1 ⟨.ref a', H2, I2.tok _, rfl, q a' v' z2 z3⟩
    show _ + 8 < cLine
    simp only [Around.in1_units] <;> omega
  · obtain ⟨p, hp, hpk⟩ := List.mem_map.mp hin
    exact absurd hpk (z2 p hp)
end
/-! ### for k in d -/
def ItN (w : World) (d : Addr) (ep : Nat) (xs : Nx) : It :=
  ⟨fun i H => H d = some (DicN w d ep xs) ∧ i < xs.length, fun i H x H' => H' = H ∧ ∃ y, xs[i]? = some y ∧ x = .ref y.2.1, fun i H => H d = some (DicN w d ep xs) ∧ xs.length ≤ i⟩
theorem turn_keysN {P : Program} {w : World} {K : PySem.W.Frag} {tg : Expr} {d : Addr} {ep : Nat} {xs : Nx} (it : Addr) : Turn P w K tg (ItN w d ep xs) [it] it (fun i h => h.IsKeyIter it d i xs.length ep) where
  mem := by simp
  obj := fun i h st b hb => by
    have e : b = it := by simpa using hb
    subst e
    obtain ⟨oi, e, c, dd⟩ := st
    exact ⟨oi, e, fun v z => by rw [dd] at z; cases z⟩
  keep := fun i h h' st k => st.at fun oi e => k it (by simp) oi e
  item := by
    intro X hP hw hK hc i pins s σ H E I hf st hg
    subst hP hw hK
    obtain ⟨hd, hi⟩ := hg
    obtain ⟨f0, f1, f2, f3, f4, f5⟩ := hf it (by simp)
    obtain ⟨hs, ob, es, hgd, hx, hdt, hes, _⟩ := dicN_at I hd
    obtain ⟨y, hy⟩ : ∃ p, xs[i]? = some p := ⟨xs[i], List.getElem?_eq_getElem hi⟩
    have hsz : es.size = xs.length := by rw [← Array.length_toList, hes, List.length_map]
    have hen : es[i]? = some (⟨y.1.hash X.w, .ref y.2.1, .ref y.2.2⟩ : DictEntry) := by rw [← Array.getElem?_toList, hes, List.getElem?_map, hy]; rfl
    refine next_key_item st hgd hdt hsz hen fun h' st' sb => ?_
    have I1 : Inv X pins σ H { s with heap := h' } := I.turned (t' := s.toks) (fun b ob hb e => (sb.2 b hb).trans e) f0 f1 f3 f4 f5
    obtain ⟨oi, e, c, dd⟩ := id st'
    exact ⟨_, rfl, go_of (s := { s with heap := h' }) e c dd (by decide) ⟨.ref y.2.1, H, I1, rfl, ⟨rfl, y, hy, rfl⟩, st', fun b hb => (hf b hb).1⟩⟩
  done := by
    intro X hP hw hK hc i pins s σ H E I hf st hg
    subst hP hw hK
    obtain ⟨hd, hi⟩ := hg
    obtain ⟨f0, f1, f2, f3, f4, f5⟩ := hf it (by simp)
    obtain ⟨hs, ob, es, hgd, hx, hdt, hes, _⟩ := dicN_at I hd
    have hsz : es.size = xs.length := by rw [← Array.length_toList, hes, List.length_map]
    exact next_key_end (I.ok.hd hc) st hgd hdt hsz hi fun h' eb => ⟨rfl, I.turned (t' := s.toks) (fun b ob hb e => eb b ob hb e) f0 f1 f3 f4 f5⟩
  self := fun A i s Q E st h => by
    refine wpAny_pyIter_slot st.typeIs F.slot_dict_keyiterator_iter (wpAny_call_entry F.slot_dict_keyiterator_iter st.typeIs F.entry_dict_keyiterator_iter ?_ (F.args_dict_keyiterator_iter_1 _))
    show wpAny _ _ (ret (.ref it)) _ _ s
    exact wpAny_pure ⟨_, rfl, "dict_keyiterator", _, st.typeIs, F.slot_dict_keyiterator_next.lookup, h⟩
theorem pi_keysN {X : Cx} {tg e : Expr} {td : TE} (he : PE X e td) : PI X tg e (fun σ H R => td σ H fun x H1 => ∃ d ep xs, x = .ref d ∧ H1 d = some (DicN X.w d ep xs) ∧ R (ItN X.w d ep xs) H1) := by
  refine ⟨fun pins s σ H R I h => ?_⟩
  refine thn (he.run pins s σ H _ I h) fun u s1 ⟨x, H1, I1, rx, d, ep, xs, ex, hd, q⟩ => ?_
  subst ex
  obtain rfl : u = Value.ref d := rx
  obtain ⟨hs, ob, es, hgd, hx, hdt, hes, _⟩ := dicN_at I1 hd
  have hsz : es.size = xs.length := by rw [← Array.length_toList, hes, List.length_map]
  refine iter_keys hs hgd hx hdt (pi_one (tk := s1.toks) I1 _ (turn_keysN _) ⟨_, Heap.get?_push_size _ rfl, rfl, ?_⟩ q)
  rw [hsz] <;> rfl
end K3
end

section
set_option Elab.async false
set_option linter.all false
set_option autoImplicit false
set_option maxRecDepth 100000
set_option maxHeartbeats 1000000
/-! Dicts keyed by nested tuples, in a slot. -/
namespace K3
open PySem PySem.Spec PyProof.Rows L2
namespace Sv
variable {K : PySem.W.Frag}
def odN (w : World) (ks : List (D × D)) : Sv K := ⟨fun F G v => ∃ d ep xs, v = some (.ref d) ∧ G d = some (DicN w d ep xs) ∧ IsN K F xs ks, fun e g ⟨d, ep, xs, h1, h2, h3⟩ => ⟨d, ep, xs, h1, g _ _ h2, h3.mono e⟩⟩
def fdN (w : World) (ks : List (D × D)) : Sv K := ⟨fun F _ v => ∃ d ep xs, v = some (.ref d) ∧ F d = some (DicN w d ep xs) ∧ IsN K F xs ks, fun e g ⟨d, ep, xs, h1, h2, h3⟩ => ⟨d, ep, xs, h1, e _ _ h2, h3.mono e⟩⟩
end Sv
section
variable {K : PySem.W.Frag} {ow ow' : Addr → Nat} {H H' F : Hp} {σ : L2.St} {S : Sto K} {w : World}
theorem Std.odN (st : Std K ow H σ S) {i : Nat} {ks : List (D × D)} (h : S[i]? = some (.odN w ks)) : ∃ d ep xs, σ[i]? = some (some (.ref d)) ∧ H d = some (DicN w d ep xs) ∧ ow d = i + 1 ∧ IsN K (K3.fz ow H) xs ks := by
  obtain ⟨d, ep, xs, e, g, q⟩ := st.sl i _ h
  obtain ⟨g1, g2⟩ := pt_some g
  refine ⟨d, ep, xs, ?_, g1, g2, q⟩
  cases r : σ[i]? with
  | none =>
    rw [r] at e
    cases e
  | some z =>
    rw [r] at e
    have e' : z = some (.ref d) := e
    rw [e']
theorem Std.fdN (st : Std K ow H σ S) {i : Nat} {ks : List (D × D)} (h : S[i]? = some (.fdN w ks)) : ∃ d ep xs, σ[i]? = some (some (.ref d)) ∧ K3.fz ow H d = some (DicN w d ep xs) ∧ IsN K (K3.fz ow H) xs ks := by
  obtain ⟨d, ep, xs, e, g, q⟩ := st.sl i _ h
  refine ⟨d, ep, xs, ?_, g, q⟩
  cases r : σ[i]? with
  | none =>
    rw [r] at e
    cases e
  | some z =>
    rw [r] at e
    have e' : z = some (.ref d) := e
    rw [e']
theorem Std.freezeN (st : Std K ow H σ S) {i : Nat} {ks : List (D × D)} (h : S[i]? = some (.odN w ks)) : ∃ ow', Std K ow' H σ (S.set i (.fdN w ks)) ∧ Stp S.length ow H ow' H := by
  have hx : Ex (K3.fz ow H) (K3.fz (fun a => if ow a = i + 1 then 0 else ow a) H) := fun a u z => by
    obtain ⟨z1, z2⟩ := pt_some z
    refine pt_of ?_ z1
    show (if ow a = i + 1 then 0 else ow a) = 0
    rw [if_neg (by omega)]
    exact z2
  have hl : i < S.length := (List.getElem?_eq_some_iff.mp h).1
  refine ⟨fun a => if ow a = i + 1 then 0 else ow a, ⟨by rw [List.length_set]; exact st.len, fun j s hs => ?_⟩, hx, fun m hm a u z => ?_, fun _ z => z⟩
  · by_cases ej : j = i
    · subst ej
      rw [List.getElem?_set_self hl] at hs
      cases hs
      obtain ⟨d, ep, xs, e, g, o, q⟩ := st.odN h
      rw [e]
      exact ⟨d, ep, xs, rfl, pt_of (if_pos o) g, q.mono hx⟩
    · rw [List.getElem?_set_ne (Ne.symm ej)] at hs
      have z := st.sl j s hs
      have ep : pt (fun a => if ow a = i + 1 then 0 else ow a) (j + 1) H = pt ow (j + 1) H := by
        funext a
        unfold pt
        show (if (if ow a = i + 1 then 0 else ow a) = j + 1 then H a else none) = if ow a = j + 1 then H a else none
        by_cases c : ow a = i + 1
        · rw [if_pos c, if_neg (by omega), if_neg (by omega)]
        · rw [if_neg c]
      rw [ep]
      exact s.mono hx (Evl.Ex.refl _) z
  · obtain ⟨z1, z2⟩ := pt_some z
    refine pt_of ?_ z1
    show (if ow a = i + 1 then 0 else ow a) = m
    rw [if_neg (by omega)]
    exact z2
end
section
variable {X : Cx} {S : Sto X.K} {Q : D → Prop} {D0 : De X.K} {e f : Expr} {sts : List Stmt} {pos epos : Pos} {x : Str} {px apos cpos : Pos}
theorem wv_dnewN {QS : Sv X.K → Prop} (q : QS (.odN X.w [])) : WV X (.Dict [] [] pos) S QS := fun ow H σ Q' st k => by
  refine PE.we pe_dnewN fun p hp => ?_
  have ex : Ex H (upd H p (DicN X.w p 0 [])) := Evl.Ex.new hp
  exact k _ _ (zw S.length ow H) _ q (st.zone ex) (.zone ex) ⟨p, 0, [], rfl, zn_of hp (zw_new hp) upd_same, .nil⟩
theorem wss_frzN (i : Nat) {ks : List (D × D)} (h : S[i]? = some (.odN X.w ks)) (q : WSs X sts (S.set i (.fdN X.w ks)) D0) : WSs X sts S D0 := fun ow H σ E std m => by
  obtain ⟨ow1, st1, sp⟩ := std.freezeN h
  have m' : Meets X.K (S.set i (.fdN X.w ks)).length ow1 H D0 E := by rw [List.length_set]; exact m.step sp
  exact q ow1 H σ E st1 m'
/-- d.setdefault(k, v) -/
theorem ws_setdN (i : Nat) {ks : List (D × D)} (hu : X.A.units + 64 < cLine) (hS : S[i]? = some (.odN X.w ks)) (hz : ks.length < 1000)
    (h : W X e S fun k => numD k ∧ k.depth ≤ 8 ∧ (∃ ds, k = .tuple ds) ∧ W X f S fun v => (∃ ds, v = .tuple ds) ∧ D0.nx S ∧ D0.nx (S.set i (.odN X.w (ks ++ [(k, v)]))))
    (hN : X.N[i]? = some x := by rfl) (hv : Vis X.env.scope x := by first | exact Or.inl rfl | exact Or.inr (Or.inl rfl) | exact Or.inr (Or.inr rfl))
    (hd : (x == ("__debug__" : Str)) = false := by decide) (hcd : (x == ("__classdict__" : Str)) = false := by decide)
    (m1 : attributeBase (.Name x px) "setdefault" X.env (eval (.Name x px) X.env) = eval (.Name x px) X.env := by rfl)
    (m2 : ((backTo cpos (starEach [e, f] X.env)).all (fun x => !x.1) && (backToKw cpos (keywordEach [] X.env)).all (fun x => x.1.isSome)
      && decide (([e, f] : List Expr).length + ([] : List Keyword).length + (if ([] : List Keyword).isEmpty then 0 else 1) < 30)) = true := by rfl)
    (m3 : (apos.endLine == cpos.line) = true := by rfl) (m4 : backTo cpos (starEach [e, f] X.env) = [(false, eval e X.env), (false, eval f X.env)] := by rfl)
    (hsw : swapsWith (.Call (.Attribute (.Name x px) "setdefault" apos) [e, f] [] cpos) none epos.line X.env = pure false := by rfl) :
    WS X (.Expr (.Call (.Attribute (.Name x px) "setdefault" apos) [e, f] [] cpos) epos) S D0 := fun ow H σ E st m => by
  refine PS.we (ps_expr (pe_setdN hu (pe_var hN hv hd hcd) pe_W pe_W ⟨m1, m2, m3, m4⟩) hsw) ?_
  obtain ⟨d, ep, xs, ev, g, o, isn⟩ := st.odN hS
  refine ⟨_, ev, d, rfl, ⟨ep, xs, g⟩, ?_⟩
  refine h ow H σ _ st fun k v ow1 H1 q st1 e1 i1 => ?_
  obtain ⟨hn, hdp, ⟨kd, rfl⟩, q⟩ := q
  refine q ow1 H1 σ _ st1 fun y v2 ow2 H2 q2 st2 e2 i2 => ?_
  obtain ⟨⟨vd, rfl⟩, q3, q4⟩ := q2
  obtain ⟨d2, ep2, xs2, ev2, g2, o2, isn2⟩ := st2.odN hS
  rw [ev] at ev2
  cases ev2
  have hi : i < S.length := (List.getElem?_eq_some_iff.mp hS).1
  have i1' := i1.mono e2.fz
  cases v with
  | ref b =>
    cases v2 with
    | ref a =>
      refine ⟨ep2, xs2, ks, .tuple kd, b, a, K3.fz ow2 H2, rfl, rfl, g2, pt_le, isn2, i1', hn, hdp, by rw [isn2.len]; exact hz, fun a' => ?_, fun ep' => ?_⟩
      · exact m.nx _ ow2 _ _ q3 rfl st2 (e1.trans e2)
      · obtain ⟨st3, e3⟩ := st2.upd (o := DicN X.w d ep' (xs2 ++ [(keyD (.tuple kd), b, a)])) (s := .odN X.w (ks ++ [(.tuple kd, .tuple vd)])) o2 hi (some_ne g2) (by
          rw [ev]
          exact ⟨d, ep', _, rfl, pt_of o2 upd_same, IsN.snoc i1' hn hdp i2 isn2⟩)
        exact m.nx _ ow2 _ _ q4 (by rw [List.length_set]) st3 ((e1.trans e2).trans e3)
    | _ => cases i2
  | _ => cases i1
/-- d[k] -/
theorem w_getN (i : Nat) {ks : List (D × D)} (hu : X.A.units + 64 < cLine) (hS : S[i]? = some (.fdN X.w ks))
    (h : W X e S fun k => numD k ∧ k.depth ≤ 8 ∧ (∃ ds, k = .tuple ds) ∧ k ∈ ks.map (·.1) ∧ ∀ v, (k, v) ∈ ks → Q v)
    (hN : X.N[i]? = some x := by rfl) (hv : Vis X.env.scope x := by first | exact Or.inl rfl | exact Or.inr (Or.inl rfl) | exact Or.inr (Or.inr rfl))
    (hd : (x == ("__debug__" : Str)) = false := by decide) (hcd : (x == ("__classdict__" : Str)) = false := by decide) (hs : NoSl e := by intro _ _; rfl) : W X (.Subscript (.Name x px) e pos) S Q := fun ow H σ Q' st k => by
  refine PE.we (pe_dgetN hu (pe_var hN hv hd hcd) pe_W hs) ?_
  obtain ⟨d, ep, xs, ev, g, isn⟩ := st.fdN hS
  refine ⟨_, ev, ?_⟩
  refine h ow H σ _ st fun y v ow1 H1 q st1 e1 i1 => ?_
  obtain ⟨hn, hdp, ⟨kd, rfl⟩, hin, q⟩ := q
  cases v with
  | ref b => exact ⟨d, ep, xs, ks, .tuple kd, b, K3.fz ow1 H1, rfl, rfl, pt_le _ _ (e1.fz _ _ g), pt_le, isn.mono e1.fz, i1, hn, hdp, hin, fun a v hv iv => k v _ ow1 H1 (q v hv) st1 e1 iv⟩
  | _ => cases i1
/-- for k in d -/
theorem wi_keysN (i : Nat) {tg : Expr} {p : Bool} {ks : List (D × D)} {QL : List D → Prop} (hS : S[i]? = some (.fdN X.w ks)) (q : QL (ks.map (·.1)))
    (hN : X.N[i]? = some x := by rfl) (hv : Vis X.env.scope x := by first | exact Or.inl rfl | exact Or.inr (Or.inl rfl) | exact Or.inr (Or.inr rfl))
    (hd : (x == ("__debug__" : Str)) = false := by decide) (hcd : (x == ("__classdict__" : Str)) = false := by decide) : WI X tg (.Name x px) S p QL := fun ow H σ R st k => by
  refine PI.we (pi_keysN (pe_var hN hv hd hcd)) ?_
  obtain ⟨d, ep, xs, ev, g, isn⟩ := st.fdN hS
  refine ⟨_, ev, d, ep, xs, rfl, pt_le _ _ g, k _ _ ow H q st (.refl _ _ _) fun F' H' f1 f2 j => ?_⟩
  have hH : H' d = some (DicN X.w d ep xs) := f2 _ _ (f1 _ _ g)
  refine ⟨fun l => ⟨hH, ?_⟩, fun y hy => ?_⟩
  · rw [List.length_map] at l
    rw [isn.len]
    exact l
  · rw [List.getElem?_map] at hy
    cases e4 : ks[j]? with
    | none =>
      rw [e4] at hy
      cases hy
    | some p0 =>
      rw [e4] at hy
      cases hy
      obtain ⟨b, a, z1, z2, _⟩ := isn.at_ e4
      refine ⟨⟨hH, (List.getElem?_eq_some_iff.mp z1).1⟩, fun x H2 y => ?_⟩
      obtain ⟨rfl, y', ey, rfl⟩ := y
      rw [z1] at ey
      cases ey
      exact ⟨Evl.Ex.refl _, .inl (z2.mono (f1.trans (cut_le f2 (Evl.Ex.refl _))))⟩
end
end K3
end

section
set_option Elab.async false
set_option linter.all false
set_option autoImplicit false
set_option maxRecDepth 100000
set_option maxHeartbeats 2000000
/-! _law_plain_table -/
namespace K3
open PySem PySem.Spec PyProof.Rows L2
def KV (e : En) : D × D := (.tuple [dN e.s, tN e.ps], e.enc)
theorem numDs_nats : ∀ ns : List Nat, numDs (ns.map dN)
  | [] => by rw [List.map_nil, numDs]; trivial
  | n :: ns => by
    rw [List.map_cons, numDs]
    exact ⟨by unfold dN; rw [numD]; trivial, numDs_nats ns⟩
theorem num_kv (e : En) : numD (KV e).1 := by
  unfold KV tN dN
  rw [numD, numDs, numDs, numDs, numD, numD]
  exact ⟨trivial, numDs_nats e.ps, trivial⟩
theorem depth_kv (e : En) : (KV e).1.depth ≤ 8 := by
  unfold KV
  rw [PyData.depth, PyData.depthAll, PyData.depthAll, PyData.depthAll, depth_tN]
  exact (by decide : max 0 (max 1 0) + 1 ≤ 8)
theorem ens_of {Pr : En → Prop} : ∀ {ys : List D}, (∀ y, y ∈ ys → ∃ e : En, y = e.enc ∧ Pr e) → ∃ es : List En, ys = es.map En.enc ∧ ∀ e, e ∈ es → Pr e
  | [], _ => ⟨[], rfl, fun n h => by cases h⟩
  | y :: ys, h => by
    obtain ⟨n, rfl, hn⟩ := h y List.mem_cons_self
    obtain ⟨ns, rfl, hns⟩ := ens_of (ys := ys) fun z hz => h z (List.mem_cons_of_mem _ hz)
    exact ⟨n :: ns, rfl, fun m hm => by
      rcases List.mem_cons.mp hm with rfl | hm
      · exact hn
      · exact hns m hm⟩
section
variable {P : Program} {w : World} {K : PySem.W.Frag} {mg : Str → Option Value} {base : Heap}
abbrev n29 : List Str := ["_law_bag_here", "_law_many", "_law_most", "_law_signs_here", "_law_found", "_law_sign", "_law_turn", "_law_entry_here", "_law_key"]
theorem sc29 : FnScope n29 ["_law_bag_here", "_law_many", "_law_most"] (defScope (top 29)) := ⟨rfl, rfl, rfl, by decide +kernel, rfl, by decide +kernel, by decide +kernel⟩
theorem ok_plain (T : Tx K mg) (G : Told P w K mg base) : Plain P w K mg base := by
  obtain ⟨f, fd, F, hmg⟩ := T.top (x := "_law_plain_table") (j := 29) 18
  refine fnB_of F hmg sc29 (fun _ _ _ _ _ _ us hl => match us, hl with | [_, _, _], _ => rfl) (fun ds R h => by obtain ⟨_, _, rfl, _⟩ := h; rfl) fun cdv A outer s H E b ds R hr h => ?_
  obtain ⟨many, most, rfl, h1, h4, g1, g6, q⟩ := h
  have hu : (A.deeper (envOfC "_law_plain_table" (defScope (top 29)) s.heap.objs.size f cdv)).units + 64 < cLine := by
    have := hr.1.un
    show (A.deeper (envOfC "_law_plain_table" (defScope (top 29)) s.heap.objs.size f cdv)).units + 64 < cLine
    omega
  refine wss_cons (ws_tup2 3 4 sc29.nd (wva_cons (wv_dat (w_callB' 0 (ok_signs T) hr (by decide) rfl (wa_cons (w_var 2 rfl (wa_nil ⟨most, rfl, g1, g6, fun σ hσ => wva_cons (wv_dnewN (wva_nil ⟨rfl, fun _ => ?_⟩))⟩)))))))
  have hl0 : 0 < σ.length := (List.getElem?_eq_some_iff.mp hσ.2.1).1
  have hl6 := hσ.1
  refine wss_cons (ws_forN 5 sc29.nd (wi_rangeN T (w_len T (w_var 3 rfl ⟨_, .inr rfl, σ.length, by rw [List.length_map], by omega, ?_⟩))))
  refine forQ_map (List.range σ.length) dN (fun pre S' => ∃ (es : List En) (c5 c6 c7 : Sv K), es.length ≤ 4 * pre.length ∧ (∀ e, e ∈ es → EnOk many σ e) ∧ S' = [.bag b, .dat (dN many), .dat (dN most), .dat (tN σ), .odN w (es.map KV), c5, c6, c7, .no]) ⟨[], .no, .no, .no, Nat.zero_le _, fun e he => (nomatch he), rfl⟩ (fun pre sg post S' ee hl hs => ?_) (fun S' hl hs => fun _ => ?_)
  · obtain ⟨es0, c5, c6, c7, hp, hes, rfl⟩ := hs
    have hsg : sg < σ.length := List.mem_range.mp (by rw [ee]; simp)
    have hlen := congrArg List.length ee
    rw [List.length_range, List.length_append, List.length_cons] at hlen
    refine ⟨_, rfl, wss_one (ws_forN 6 sc29.nd (wi_rangeN T (w_addN (w_int ⟨1, rfl, w_callB' 0 (ok_take T) hr (by decide) rfl (wa_cons (w_int (wa_nil ⟨4, rfl, by decide, by decide, fun v hv => ⟨v, rfl, 1 + v, rfl, by omega, ?_⟩⟩)))⟩))))⟩
    refine forQ_map (List.range (1 + v)) dN (fun pre2 S' => ∃ (es : List En) (c6 c7 : Sv K), es.length ≤ 4 * pre.length + pre2.length ∧ (∀ e, e ∈ es → EnOk many σ e) ∧ S' = [.bag b, .dat (dN many), .dat (dN most), .dat (tN σ), .odN w (es.map KV), .dat (dN sg), c6, c7, .no]) ⟨es0, c6, c7, by rw [List.length_nil]; exact hp, hes, rfl⟩ (fun pre2 tn post2 S' ee2 hl hs => ?_) (fun S' hl hs => ?_)
    · obtain ⟨es, c6, c7, hp2, hes, rfl⟩ := hs
      have hlen2 := congrArg List.length ee2
      rw [List.length_range, List.length_append, List.length_cons] at hlen2
      refine ⟨_, rfl, wss_cons (ws_set 7 sc29.nd (w_callB' 0 (ok_entry T) hr (by decide) rfl (wa_cons (w_var 1 rfl (wa_cons (w_var 3 rfl (wa_cons (w_var 5 rfl (wa_nil ⟨many, σ, sg, rfl, h1, h4, hsg, hσ.2.2, fun e e2 e3 => fun _ => ?_⟩)))))))))⟩
      refine wss_one (ws_setdN 4 hu rfl (by rw [List.length_map]; omega) (w_sl (w_var 7 rfl (w_int ⟨2, rfl, sd_tup ?_⟩))))
      rw [show (2 : Int) = ((2 : Nat) : Int) from rfl, cutD_upto]
      refine ⟨num_kv e, depth_kv e, ⟨_, rfl⟩, w_var 7 rfl ⟨⟨_, rfl⟩, ⟨es, _, _, by rw [List.length_append, List.length_cons, List.length_nil]; omega, hes, rfl⟩, ⟨es ++ [e], .dat (dN tn), .dat e.enc, by rw [List.length_append, List.length_append, List.length_cons, List.length_nil, List.length_cons, List.length_nil]; omega, fun e' he => ?_, ?_⟩⟩⟩
      · rcases List.mem_append.mp he with h | h
        · exact hes e' h
        · rw [List.mem_singleton] at h
          rw [h]
          exact e3
      · rw [List.map_append]
        rfl
    · obtain ⟨es, c6, c7, hp2, hes, rfl⟩ := hs
      rw [List.length_range] at hp2
      exact ⟨es, _, _, _, by rw [List.length_append, List.length_cons, List.length_nil]; omega, hes, rfl⟩
  · obtain ⟨es, c5, c6, c7, hp, hes, rfl⟩ := hs
    rw [List.length_range] at hp
    refine wss_frzN 4 rfl ?_
    refine wss_cons (ws_setV 4 sc29.nd (wv_lcN 8 [("_law_key", 8)] sc29.nd (blkOk_by (N := n29) (sc := defScope (top 29)) (by decide +kernel)) (idle1 rfl) (wi_keysN 4 rfl ?_)))
    refine ⟨slt (by rw [List.length_map, List.length_map]; omega), fun i acc => ∀ y, y ∈ acc → ∃ e : En, y = e.enc ∧ EnOk many σ e, fun y hy => (nomatch hy), fun i d acc hd hl hP => ⟨_, rfl, fun s H C cl fp => wts_nil ?_⟩, fun acc hl hP => fun _ => ?_⟩
    · rw [if_pos rfl]
      intro s' H' C' cl' fp'
      have hm := List.mem_of_getElem? hd
      obtain ⟨p, hp2, rfl⟩ := List.mem_map.mp hm
      obtain ⟨e, he, rfl⟩ := List.mem_map.mp hp2
      refine w_getN 4 hu rfl (w_var 8 rfl ⟨num_kv e, depth_kv e, ⟨_, rfl⟩, hm, fun v hv => ?_⟩)
      obtain ⟨e', he', ev⟩ := List.mem_map.mp hv
      intro y hy
      rcases List.mem_append.mp hy with hy | hy
      · exact hP y hy
      · rw [List.mem_singleton] at hy
        rw [hy, ← (Prod.mk.inj ev).2]
        exact ⟨e', rfl, hes e' he'⟩
    · obtain ⟨es2, rfl, hes2⟩ := ens_of hP
      rw [List.length_map, List.length_map, List.length_map] at hl
      refine wss_cons (ws_append 4 rfl (by rw [List.length_map]; omega) (w_callB' 0 (ok_entry T) hr (by decide) rfl (wa_cons (w_var 1 rfl (wa_cons (w_var 3 rfl (wa_cons (w_int (wa_nil ⟨many, σ, 0, rfl, h1, h4, hl0, hσ.2.2, fun e1 e2 e3 => fun _ => ?_⟩)))))))))
      have e7 : es2.map En.enc ++ [e1.enc] = (es2 ++ [e1]).map En.enc := by rw [List.map_append]; rfl
      rw [e7]
      have hes3 : ∀ e, e ∈ es2 ++ [e1] → EnOk many σ e := fun e he => by
        rcases List.mem_append.mp he with h | h
        · exact hes2 e h
        · rw [List.mem_singleton] at h
          rw [h]
          exact e3
      refine wss_frz 4 rfl (wss_one (ws_ret (w_call G hr (by decide) (wa_cons (w_var 1 rfl (wa_cons (w_var 3 rfl (wa_cons (w_var 4 rfl (wa_nil ⟨many, σ, es2 ++ [e1], rfl, by rw [List.length_append, List.length_cons, List.length_nil]; omega, fun e he => ?_, fun es' m1 m2 m3 => ⟨q ⟨many, σ, es'⟩ ⟨rfl, hσ, fun e he => hes3 e (m1 e he), m2, m3⟩, _, rfl, BagLike.bag⟩⟩))))))))))
      have := hσ.len (hes3 e he).1
      omega
end
end K3
end

section
set_option Elab.async false
set_option linter.all false
set_option autoImplicit false
set_option maxRecDepth 100000
set_option maxHeartbeats 2000000
/-! law -/
namespace K3
open PySem PySem.Spec PyProof.Rows L2
/-- of the script's list: True -/
def spL (K : PySem.W.Frag) : Sp := fun vs H Q _ => ∃ (F : Hp) (a : Addr) (ns : List Int), vs = [.ref a] ∧ Ex F H ∧ SqL K F a (ns.map V.int) ∧ ∀ H' : Hp, Ex H H' → Q (.bl true) H'
theorem fnL_of {P : Program} {w : World} {K : PySem.W.Frag} {mg : Str → Option Value} {base : Heap} {k : Nat} {f : Addr} {x qual : Str} {st : Stmt} {fd : FuncData} {N ps : List Str}
    (Fd : L2.FunD K x qual (defArgs st) (defBody st) (defScope st) [] [] f fd) (S : FnScope N ps (defScope st)) (hps : ps.length = 1)
    (hbody : ∀ (cdv : Value) (A : Around) (outer : List Env) (s : Shared) (H : Hp) (E : XK) (ns : List Int), Rm k (A.deeper (envOfC qual (defScope st) s.heap.objs.size f cdv)) →
      WSs (Bx P w K mg base N qual (defScope st) f cdv A outer s H E) (defBody st) (.sq ns :: nos (N.length - 1)) { nx := fun _ => False, rt := fun d _ => d = .bool true }) :
    FnG P w K mg base (k + 1) f fd ps (spL K) := by
  obtain ⟨oc, od, dV, kV, doc, pm, an, cdv, ct, osl, rfl, lk, hcd, hdf, hkw⟩ := Fd.ex
  have hpN : ps.length ≤ N.length := by
    have e : (N.take ps.length).length = ps.length := congrArg List.length S.pre
    rw [List.length_take] at e
    omega
  refine fnG_of lk hcd S (fun vs H Q E h => ?_) fun A outer s H vs Q E hgd hr h => ?_
  · obtain ⟨F, a, ns, rfl, _⟩ := h
    exact hps.symm
  · obtain ⟨F, a, ns, rfl, ex, q, kk⟩ := h
    have st0 := stdM (N := N) ex q (by omega)
    have l1 : (Sv.sq ns :: nos (N.length - 1) : Sto K).length = N.length := by
      unfold nos
      rw [List.length_cons, List.length_replicate]
      omega
    refine hbody cdv A outer s H E ns ⟨hr, hgd⟩ (ow0 F N.length) H (L2.start N [.ref a]) _ st0 ⟨fun S' ow' H' σ' p => p.elim, fun d v S' ow' H' σ' p l st' sp i => ?_, fun S' ow' H' σ' p => p.elim, fun S' ow' H' σ' p => p.elim⟩
    have sp' : Stp (Sv.sq ns :: nos (N.length - 1) : Sto K).length (ow0 F N.length) H ow' H' := sp
    rw [l1] at sp'
    obtain ⟨b1, b2⟩ := back0 ex sp'
    have p' : d = .bool true := p
    subst p'
    cases i
    exact kk H' b1
section
variable {P : Program} {w : World} {K : PySem.W.Frag} {mg : Str → Option Value} {base : Heap}
abbrev n47 : List Str := ["_law_script", "_law_bag_here", "_law_turn", "_law_table_here", "_law_program_here", "_law_kinds", "_law_signs_here", "_law_kept"]
theorem sc47 : FnScope n47 ["_law_script"] (defScope (top 47)) := ⟨rfl, rfl, rfl, by decide +kernel, rfl, by decide +kernel, by decide +kernel⟩
theorem ok_law (T : Tx K mg) (hM : ∃ tk, mg "MOST_READINGS" = some (.int 5000 tk)) {f : Addr} {fd : FuncData} (F : L2.FunD K "law" "law" (defArgs (top 47)) (defBody (top 47)) (defScope (top 47)) [] [] f fd) : FnG P w K mg base 40 f fd ["_law_script"] (spL K) := by
  refine fnL_of F sc47 rfl fun cdv A outer s H E ns hr => ?_
  refine wss_cons (ws_setV 1 sc47.nd (wv_callM 0 (ok_bag T) hr (by decide) rfl fun b => fun _ => ?_))
  refine wss_cons (ws_forN 2 sc47.nd (wi_rangeN T (w_int ⟨4, rfl, by decide, ?_⟩)))
  refine forQ_map (List.range 4) dN (fun pre S' => ∃ (c2 c3 c4 c5 c6 c7 : Sv K), S' = [.sq ns, .bag b, c2, c3, c4, c5, c6, c7]) ⟨.no, .no, .no, .no, .no, .no, rfl⟩ (fun pre tn post S' ee hl hs => ?_) (fun S' hl hs => fun _ => wss_one (ws_ret (w_bool rfl)))
  obtain ⟨c2, c3, c4, c5, c6, c7, rfl⟩ := hs
  refine ⟨_, rfl, ?_⟩
  refine wss_cons (ws_set 3 sc47.nd (w_callB' 1 (ok_table T (ok_told T) (ok_plain T (ok_told T))) hr (by decide) rfl (wa_nil ⟨rfl, fun many t h0 h4 ht => fun _ => ?_⟩)))
  have hm := ht.m
  have h6 : t.signs.length ≤ 6 := ht.s.1
  refine wss_mid (fun S' => ∃ p, PrOk t.signs p ∧ p.size ≤ 10 ∧ S' = [.sq ns, .bag b, .dat (dN tn), .dat t.enc, .dat p.enc, c5, c6, c7]) ?_ fun S' hl hs => ?_
  · refine ws_set 4 sc47.nd (w_or (w_callB' 1 (ok_program T) hr (by decide) rfl (wa_cons (w_var 3 rfl (wa_cons (w_int (wa_nil ⟨many, 6, 10, t, rfl, ht, h4, by decide, by decide, .inl ⟨rfl, w_one (w_callB' 1 (ok_anyP T 6) hr (by decide) rfl (wa_cons (w_var 3 rfl (wa_cons (w_int (wa_nil ⟨many, 6, 6, t, rfl, ht, by decide, by decide, by decide, by decide, fun p hp hz => ⟨p, hp, by omega, rfl⟩⟩))))))⟩, fun p hp hz => .inr ?_⟩)))))))
    cases p with
    | hole =>
      have hf := hp.2
      rw [Pr.full] at hf
      exact hf.elim
    | node sg ps => exact ⟨dN sg, ps.map Pr.enc, Pr.enc_node sg ps, .node sg ps, hp, hz, rfl⟩
  obtain ⟨p, hp, hz, rfl⟩ := hs
  refine wss_cons (ws_set 5 sc47.nd (w_tuple T (w_callB' 1 (ok_mixed T) hr (by decide) rfl (wa_cons (w_listRange T rfl (w_ix (w_var 3 rfl (w_int (xd_tup (i := 0) rfl ⟨t.many, rfl, by omega, wa_nil ⟨List.range t.many, rfl, by rw [List.length_range]; omega, fun κ hκ0 => ⟨_, rfl, fun _ => ?_⟩⟩⟩)))))))))
  have hκ : Pm many κ := by
    rw [hm] at hκ0
    exact hκ0
  refine wss_cons (ws_set 6 sc47.nd (w_tuple T (w_callB' 1 (ok_mixed T) hr (by decide) rfl (wa_cons (w_listRange T rfl (w_len T (w_ix (w_var 3 rfl (w_int (xd_tup (i := 1) (d := tN t.signs) rfl ⟨_, .inr rfl, t.signs.length, by rw [List.length_map], by omega, wa_nil ⟨List.range t.signs.length, rfl, by rw [List.length_range]; omega, fun σ hσ => ⟨_, rfl, fun _ => ?_⟩⟩⟩))))))))))
  have hw := ht.w (Nat.le_refl _)
  have hd : p.depth ≤ 10 := Nat.le_trans p.depth_le_size hz
  have sm4 : Sm (.list [t.enc, p.enc, tN κ, tN σ]) := (Sb.lst (b := 1000) (c := 10) (m := 5000) (fun d hd2 => by
    simp only [List.mem_cons, List.not_mem_nil, or_false] at hd2
    rcases hd2 with rfl | rfl | rfl | rfl
    · exact (Sb.tb h4 hw).le (Nat.le_refl _) (by decide)
    · exact (Sb.pr (n := t.signs.length) (by omega) p (prOk_lt hp)).le (by omega) (by omega)
    · exact (Sb.tN (m := 100) (fun n hn => small15 (m := 5) (by have := hκ.mem.mp hn; omega)) (by rw [hκ.len]; omega)).le (by decide) (by decide)
    · exact (Sb.tN (m := 100) (fun n hn => small15 (m := 7) (by have := (show Pm t.signs.length σ from hσ).mem.mp hn; omega)) (by rw [(show Pm t.signs.length σ from hσ).len]; omega)).le (by decide) (by decide)) (Nat.le_of_ble_eq_true rfl)).sm (by decide) (by decide)
  refine wss_cons (ws_set 7 sc47.nd (w_repr T hr (w_lst (wa_cons (w_var 3 rfl (wa_cons (w_var 4 rfl (wa_cons (w_var 5 rfl (wa_cons (w_var 6 rfl (wa_nil ⟨szl (Nat.le_of_ble_eq_true rfl), sm4, fun _ => ?_⟩))))))))))))
  refine wss_one (ws_if (wt_pw (ww_or (wt_not (wt_val (w_callB' 1 (ok_goes T hM) hr (by decide) rfl (wa_cons (w_var 3 rfl (wa_cons (w_var 4 rfl (wa_cons (w_var 5 rfl (wa_cons (w_var 6 rfl (wa_nil ⟨many, t, p, κ, σ, rfl, ht, h4, hp, hz, hκ, hσ, true, rfl, ?_⟩)))))))))))))))
  refine ww_or1 (wt_cmp (w_repr T hr (w_lst (wa_cons (w_var 3 rfl (wa_cons (w_var 4 rfl (wa_cons (w_var 5 rfl (wa_cons (w_var 6 rfl (wa_nil ⟨szl (Nat.le_of_ble_eq_true rfl), sm4, w_var 7 rfl (od_neS ⟨_, rfl, ?_⟩)⟩))))))))))))
  rw [decide_eq_true rfl]
  exact wss_nil ⟨_, _, _, _, _, _, rfl⟩
end
end K3
end

section
set_option Elab.async false
set_option linter.all false
set_option autoImplicit false
set_option maxRecDepth 100000
set_option maxHeartbeats 0
/-! The end: the law's call behind the top. -/
namespace K3
open PySem PySem.Spec PyProof.Rows L2
section
variable {P : Program} {w : World} {K : PySem.W.Frag} {mg mb : Str → Option Value} {k : Nat} {fa a : Addr} {fd : FuncData} {x : Str} {s : Shared} {vs : List Value} {ns : List Int}
abbrev scrO (vs : List Value) : Obj := { cls := .type "list", data := .seq vs.toArray }
/-- the script alone is tracked, where it is not the module's -/
def scrH (K : PySem.W.Frag) (a : Addr) (vs : List Value) (ns : List Int) : Hp := fun b => if b = a ∧ K.lookup a = none then some (.frz (scrO vs) (.lst (ns.map V.int))) else none
theorem scrH_at {b : Addr} {u : HO} (h : scrH K a vs ns b = some u) : b = a ∧ K.lookup a = none ∧ u = .frz (scrO vs) (.lst (ns.map V.int)) := by
  unfold scrH at h
  split at h
  · rename_i c
    exact ⟨c.1, c.2, (Option.some.inj h).symm⟩
  · cases h
theorem scrH_lay {b : Addr} {o : Obj} (hl : K.lookup b = some o) : scrH K a vs ns b = none := by
  cases q : scrH K a vs ns b with
  | none => rfl
  | some u =>
    obtain ⟨rfl, n, _⟩ := scrH_at q
    rw [n] at hl
    cases hl
theorem scrH_dict {b : Addr} {o : Obj} {es : Array DictEntry} {ep : Nat} (ha : s.heap.get? a = some (scrO vs)) (e : s.heap.get? b = some o) (d : o.data = .dict es ep) : scrH K a vs ns b = none := by
  cases q : scrH K a vs ns b with
  | none => rfl
  | some u =>
    obtain ⟨rfl, _, _⟩ := scrH_at q
    obtain rfl := Option.some.inj (ha.symm.trans e)
    exact nomatch (show Data.seq vs.toArray _ = Data.dict es ep from d)
theorem scrH_sq (KX : K.In s.heap) (ha : s.heap.get? a = some (scrO vs)) (rv : Vals (ns.map V.int) vs) (hz : vs.length ≤ sizeLine) : SqL K (scrH K a vs ns) a (ns.map V.int) := by
  cases hk : K.lookup a with
  | none => exact .inl (.inr ⟨scrO vs, if_pos ⟨rfl, hk⟩⟩)
  | some o =>
    obtain rfl := Option.some.inj ((KX a o hk).symm.trans ha)
    exact .inr ⟨scrO vs, vs.toArray, _, hk, rfl, rfl, rfl, by rwa [List.size_toArray], by rwa [List.toList_toArray]⟩
theorem scrH_ok (ha : s.heap.get? a = some (scrO vs)) (rv : Vals (ns.map V.int) vs) (hz : ns.length ≤ sizeLine) : HOk P w (scrH K a vs ns) s.heap := fun b u q => by
  obtain ⟨rfl, _, rfl⟩ := scrH_at q
  exact ⟨ha, by rw [List.length_map]; exact hz, vs, _, rv, ha⟩
theorem law_run (KX : K.In s.heap) (gn : s.heap.Ns mainGlobals mg) (bn : s.heap.Ns builtinsNs mb) (bb : ∀ y : Str, y ≠ "__name__" → mb y = bootBuiltins y) (nl : s.heap.NoLimit) (gg : s.gens = #[])
    (ha : s.heap.get? a = some (scrO vs)) (hi : IntsAre vs ns) (hz : ns.length ≤ sizeLine) (hr : Room k callerA)
    (F : ∀ base : Heap, K.In base → base.Ns mainGlobals mg → FnG P w K mg base k fa fd [x] (spL K)) (bind : ∀ (s : Shared) (u : Value), BindsTo s fd ⟨[u], []⟩ [(x, u)]) :
    codeAny (model P w) callerA (.call (.ref fa) ⟨[.ref a], []⟩) (fun r s' => r = .ok (.ret (.bool true)) ∧ OldK s.heap s'.heap ∧ s'.os = s.os ∧ AllBare s'.gens) s := by
  have rv := vals_ints hi
  have lay : ∀ {b : Addr} {m : Str → Option Value}, s.heap.Ns b m → (hidT s.heap (scrH K a vs ns)).Ns b m := fun {b m} z => by
    obtain ⟨o, es, ep, e, d, r⟩ := z
    exact ⟨o, es, ep, hidT_get e (scrH_dict ha e d), d, r⟩
  have kin : K.In (hidT s.heap (scrH K a vs ns)) := fun b o e => hidT_get (KX b o e) (scrH_lay e)
  have hok : HOk P w (scrH K a vs ns) s.heap := scrH_ok ha rv hz
  have mod : Mod K mg (hidT s.heap (scrH K a vs ns)) := by
    obtain ⟨mc, n1, n2⟩ := nl
    exact ⟨kin, lay gn, ⟨mb, lay bn, bb⟩, ⟨mc, lay n1, n2⟩⟩
  have env : Env0 P w K mg (hidT s.heap (scrH K a vs ns)) callerA [] s (scrH K a vs ns) :=
    ⟨rfl, mod, fun b o e => of_hidT e, Nat.le_of_eq (hidT_size _ _), trivial, fun b hb => (nomatch (show b ∈ ([] : List Addr) from hb)), hok, .of_eq gg⟩
  have go := (F _ kin (lay gn)).run callerA [] s (scrH K a vs ns) ⟨[.ref a], []⟩ [.ref a] [.ref a] (fun v _ => v = .bl true) (fun _ _ _ => False) rfl hr env (bind s (.ref a)) (.cons rfl .nil)
    ⟨_, a, ns, rfl, Evl.Ex.refl _, scrH_sq KX ha rv (by rw [hi.length]; exact hz), fun _ _ => rfl⟩
  refine codeAny_mono go fun r s' h => ?_
  match r, h with
  | .error e, h => exact False.elim h
  | .ok .next, h => exact False.elim h
  | .ok .brk, h => exact False.elim h
  | .ok .cont, h => exact False.elim h
  | .ok (.ret u), h =>
    obtain ⟨v, H', os, bare, un, hok', ru, rfl⟩ := h
    obtain rfl : u = Value.bool true := ru
    refine ⟨rfl, OldK.of_keep fun b o e => ?_, os, bare⟩
    cases q : scrH K a vs ns b with
    | none => exact un.keep b o e q (fun z => (nomatch (show b ∈ ([] : List Addr) from z))) (fun z => (nomatch z))
    | some u =>
      obtain ⟨rfl, _, rfl⟩ := scrH_at q
      exact ((hok b _ q).1.symm.trans e) ▸ (hok' b _ (un.frzs b _ _ q)).1
end
theorem fin3 {q : Program} {loose : List Str} {XP : (Str → Option Value) → Heap → Prop} {d : DefRec} (hdf : d.params.defaults = []) (hd : d.name = ("law" : Str)) :
    PySem.W.WalkO q loose XP (fun w h => hk3.says w h) R3.toRowW d [] (fun f vs => PySem.call f vs) := by
  refine Att.attach_call (l := row3) (n := 63) rfl hdf fun w s₀ s₁ mg mb fa o pm cd doc a vs ns G Y ho hod hcd hmg hobj hints hlen hg => ?_
  obtain ⟨K, KX, c⟩ := Y
  have T : Tx K mg := Tx.of KX G.T.g c
  obtain ⟨f, fd, F, hm⟩ := T.top (x := "law") (j := 47) 36
  rw [hd] at hmg
  obtain rfl : fa = f := by
    have z := hmg.symm.trans hm
    injection z with z
    injection z
  have hM : ∃ tk, mg "MOST_READINGS" = some (.int 5000 tk) := He.int_ok KX G.T.g (T.c.fact 60 (f := .int "MOST_READINGS" 5000) rfl)
  have b := FunD.bindsA (ps := ["_law_script"]) F fun _ _ _ _ _ _ us hl => match us, hl with | [_], _ => rfl
  exact law_run (k := 40) (x := "_law_script") KX G.T.g G.T.b G.T.builtins G.T.nolimit hg hobj hints (Nat.le_trans hlen (by decide)) ⟨rfl, by decide, by decide⟩ (fun base _ _ => ok_law T hM F) fun s v => b s [v] rfl
end K3
end

set_option Elab.async false
set_option linter.all false
set_option maxRecDepth 100000
open PySem PySem.W PySem.Calls PyProof.Rows
set_option maxHeartbeats 0 in
theorem PySem.Challenge.cw_pinsenough_k03_whole_tables_renumbered_holds : PySem.Challenge.rw_pinsenough_k03_whole_tables_renumbered.Holds := by
  w_on; o_law
  refine HandSHeadRun.head_any (r := K3.R3) (q := view K3.R3.prog [47]) (H := K3.hk3) (ob := K3.ob3) (M := 6000) (loose := K3.loose3) (d := HandSHeadRun.topDef K3.R3.prog 47) (kwd := []) K3.ob3_eq
    (by kernel_rfl) (fun s => by kernel_rfl) K3.run3 (by kernel_rfl) (by kernel_rfl) (by kernel_rfl) (by rfl) (by first | assumption | decide +kernel) (by decide +kernel) ⟨rfl, rfl, rfl, rfl, rfl, by decide +kernel⟩ ?hw ?hc
  case hw => w_witness2
  case hc => exact K3.fin3 (by kernel_rfl) (by kernel_rfl)
