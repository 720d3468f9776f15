import PyProof.Rows.All
import Wide.All
import OpenK.AllK
import Wide.FinOn
import HandS.Head0
import HandS.ForMost
import HandS.Head1
import HandS.Head2
import PySem.Challenge.RW_calledbest_k94_whole_a_log_kept_by_brief
import HandS.HeadEnd
import HandS.HeadHook1
import HandS.HeadHook2
import HandS.DictComp
import HandS.Slots
import HandS.TupSets
import HandS.SortOrd
import HandS.Zip
import HandS.Strs
import HandS.IsInst
import HandS.Deep
import PyProof.ReprRoads
import HandS.Conv
import HandS.TupAny
import HandS.Walk
import HandS.More
import HandS.Small
import HandS.ReCall
import KE.DataFind
import HandS.Style
import HandS.Defaults
import HandS.Codes
import KE.SortData
import HandS.Star
import PyProof.TupleOfSeq
import HandS.SetFor
import HandS.SetTxt0
import PyProof.Draws
import KE.GoesMore
import PyProof.AssignAttr
import KE.KEqNest
import KE.KDictZip
import HandS.ListItems
import PyProof.ReprLen

/-! text P0 -/
section
set_option Elab.async false
set_option autoImplicit false
set_option linter.all false
set_option maxRecDepth 100000
set_option maxHeartbeats 4000000
/-! the program's text: its parts by number -/
namespace K94
open PySem PySem.Spec PyProof.Rows L2
def top (i : Nat) : Stmt := PySem.Challenge.pw_calledbest_k94_whole_a_log_kept_by_brief.main.body.getD i (.Pass ⟨0, 0, 0, 0⟩)
def clsBody : Stmt → List Stmt
  | .ClassDef (body := b) .. => b
  | _ => []
def mst (i : Nat) : Stmt := (clsBody (top 56)).getD i (.Pass ⟨0, 0, 0, 0⟩)
abbrev abc : Str := "abcdefghijklmnopqrstuvwxyz"
end K94
end

/-! text HH -/
section
set_option Elab.async false
set_option autoImplicit false
set_option linter.all false
set_option maxRecDepth 100000
set_option maxHeartbeats 0
/-! the head: what the program's top leaves, by one run -/
namespace K94
open PySem PySem.Spec PyProof.Rows L2
def loose0 : List Str := ["_wall", "within", "kinds_ahead", "least_beginning", "all_sets", "beginning_sets", "count_in", "counts_of", "amounts_of", "CallError", "NoCall", "NoKind", "NotNested", "Used", "Wrong", "behind", "forks_between", "forks_of", "need_nested", "PUT", "sets_within", "no_brief", "led_on", "joined_by", "inner_sets", "brief_of", "joined", "acted_by", "SIGNS", "taken_kind"]
def loose1 : List Str := ["do_deed", "acted", "stretch_of", "name_at", "log_of", "no_amounts", "LETTERS", "MOST_SIGNS", "MOST_KINDS", "MOST_CALLS", "is_name", "is_tuple_of", "are_names", "in_order", "is_part", "is_house", "is_set", "is_kind", "is_call", "Store", "do_row", "store_behind", "told_by", "taken_by", "amounts_at", "served_at", "_law_bag", "_law_take", "_law_one", "_law_mixed"]
def loose2 : List Str := ["_law_alike", "_law_nested_house", "_law_paths", "_law_named", "_law_amounts", "_law_stretch", "_law_thing_names", "_law_log_of", "_law_plain_log", "_law_row_done", "_law_played", "_law_one_deed", "_law_walked", "_law_cut", "_law_put_together", "_law_kept_right"]
def looseN : List Str := loose0 ++ loose1 ++ loose2
def dF (x : Str) (i : Nat) : He.DefD := ⟨(x, none), x, x, defArgs (top i), defBody (top i), defScope (top i), [], []⟩
def dM (m q : Str) (i : Nat) : He.DefD := ⟨("Store", some m), m, q, defArgs (mst i), defBody (mst i), defScope (mst i), [], []⟩
def fn : List He.DefD := [dF "within" 2, dF "kinds_ahead" 3, dF "least_beginning" 4, dF "all_sets" 5, dF "beginning_sets" 6, dF "count_in" 7, dF "counts_of" 8, dF "amounts_of" 9, dF "behind" 18, dF "forks_between" 19, dF "forks_of" 20, dF "need_nested" 21, dF "sets_within" 24, dF "no_brief" 25, dF "led_on" 26, dF "joined_by" 27, dF "inner_sets" 28, dF "brief_of" 29, dF "joined" 30, dF "acted_by" 31, dF "taken_kind" 34, dF "do_deed" 35, dF "acted" 36, dF "stretch_of" 37, dF "name_at" 38, dF "log_of" 39, dF "no_amounts" 40, dF "is_name" 46, dF "is_tuple_of" 47, dF "are_names" 48, dF "in_order" 49, dF "is_part" 50, dF "is_house" 51, dF "is_set" 52, dF "is_kind" 53, dF "is_call" 54, dF "do_row" 58, dF "store_behind" 59, dF "told_by" 60, dF "taken_by" 61, dF "amounts_at" 62, dF "served_at" 63, dF "_law_bag" 65, dF "_law_take" 66, dF "_law_one" 67, dF "_law_mixed" 68, dF "_law_alike" 69, dF "_law_nested_house" 70, dF "_law_paths" 71, dF "_law_named" 72, dF "_law_amounts" 73, dF "_law_stretch" 74, dF "_law_thing_names" 75, dF "_law_log_of" 76, dF "_law_plain_log" 77, dF "_law_row_done" 78, dF "_law_played" 79, dF "_law_one_deed" 80, dF "_law_walked" 81, dF "_law_cut" 82, dF "_law_put_together" 83, dF "_law_kept_right" 84, dF "law" 85, dM "__init__" "Store.__init__" 1, dM "put" "Store.put" 2, dM "first_of" "Store.first_of" 3, dM "take" "Store.take" 4, dM "amounts" "Store.amounts" 7]
def fa : List He.Fa := [.glo "within", .glo "kinds_ahead", .glo "least_beginning", .glo "all_sets", .glo "beginning_sets", .glo "count_in", .glo "counts_of", .glo "amounts_of", .glo "behind", .glo "forks_between", .glo "forks_of", .glo "need_nested", .glo "sets_within", .glo "no_brief", .glo "led_on", .glo "joined_by", .glo "inner_sets", .glo "brief_of", .glo "joined", .glo "acted_by", .glo "taken_kind", .glo "do_deed", .glo "acted", .glo "stretch_of", .glo "name_at", .glo "log_of", .glo "no_amounts", .glo "is_name", .glo "is_tuple_of", .glo "are_names", .glo "in_order", .glo "is_part", .glo "is_house", .glo "is_set", .glo "is_kind", .glo "is_call", .glo "do_row", .glo "store_behind", .glo "told_by", .glo "taken_by", .glo "amounts_at", .glo "served_at", .glo "_law_bag", .glo "_law_take", .glo "_law_one", .glo "_law_mixed", .glo "_law_alike", .glo "_law_nested_house", .glo "_law_paths", .glo "_law_named", .glo "_law_amounts", .glo "_law_stretch", .glo "_law_thing_names", .glo "_law_log_of", .glo "_law_plain_log", .glo "_law_row_done", .glo "_law_played", .glo "_law_one_deed", .glo "_law_walked", .glo "_law_cut", .glo "_law_put_together", .glo "_law_kept_right", .glo "law", .glo "Store", .mkr "Store", .meth "Store" "put", .meth "Store" "first_of", .meth "Store" "take", .meth "Store" "amounts", .free "all", .free "any", .free "sum", .free "max", .free "min", .free "abs", .free "int", .free "len", .free "tuple", .free "list", .free "dict", .free "set", .free "str", .free "sorted", .free "repr", .free "range", .free "enumerate", .free "zip", .free "isinstance", .str "PUT" "put", .str "SIGNS" abc, .str "LETTERS" abc, .int "MOST_SIGNS" 6, .int "MOST_KINDS" 6, .int "MOST_CALLS" 8]
def slB (K : PySem.W.Frag) (x : Str) (i : Nat) : Bool :=
  let C := He.ga K "Store"
  let p := He.ma K C x
  He.eqO (PySem.W.findIn K (.ref C) x) (some (some (.ref p))) && (He.eqO (PySem.W.specialIn K (.ref p) "__get__") (some (some (.builtin "member_descriptor.__get__"))) && (decide (PySem.W.takesIn K (.ref p) = some true) && (decide (PySem.W.typeIn K (.ref p) = some (.type "member_descriptor")) && decide (PySem.W.slotIn K p C = some i))))
def smB (K : PySem.W.Frag) : Bool := match K.lookup sysModules with
  | some o => decide (o.cls = .type "dict")
  | none => false
def clB (K : PySem.W.Frag) : Bool :=
  let C := He.ga K "Store"
  PySem.W.plainGet K C Str.empty && (PySem.W.isClsIn K C && (PySem.W.plainOver K C && He.eqO (PySem.W.findIn K (.ref C) "__setattr__") (some (some (.builtin "object.__setattr__")))))
def xok (K : PySem.W.Frag) : Bool := smB K && (clB K && (slB K "its_house" 0 && (slB K "its_rows" 2 && (slB K "its_things" 3 && slB K "its_names" 1))))
def fragK (g : Addr → Option Obj) : PySem.W.Frag := He.frG g (sysModules :: He.asD g 5)
abbrev AlK : Type := He.AlD × Bool
def obK (g : Addr → Option Obj) : AlK := (He.obsD fa fn (fragK g), xok (fragK g))
abbrev R : PySem.W.OpenRow := PySem.W.OpenLaw.row PySem.Challenge.rw_calledbest_k94_whole_a_log_kept_by_brief
def hk : PySem.W.Hook where
  α := AlK
  obs := fun s => obK s.heap.get?
  val := fun _ => (He.valD fn, true)
  says := fun _ h => ∃ K : PySem.W.Frag, K.In h ∧ He.SaysD fa fn K ∧ xok K = true
  of := fun _ _ e => ⟨_, He.frG_in, (Prod.mk.inj e).1, (Prod.mk.inj e).2⟩
  keeps := fun _ _ _ ⟨K, hK, c⟩ k => ⟨K, PySem.W.Frag.In.keeps hK k, c⟩
def ob (s : PySem.W.SharedT) : AlK := obK (HandSHeadRun.getT s)
theorem ob_eq (s : PySem.W.SharedT) : ob s = hk.obs s.abs := by
  have e : HandSHeadRun.getT s = s.abs.heap.get? := funext fun a => HandSHeadRun.getT_eq s a
  show obK (HandSHeadRun.getT s) = obK s.abs.heap.get?
  rw [e]
theorem run (w : World) : HandSHeadRun.RunEq R (PySem.W.view R.prog [85]) hk ob 4000 looseN w := by
  intro os
  kernel_rfl
end K94
end

/-! text KA -/
section
set_option Elab.async false
set_option linter.all false
set_option maxRecDepth 100000
set_option maxHeartbeats 4000000
set_option autoImplicit true
/-! the data layer: values as data, cells, frames, the judgements -/
namespace K94
open PySem PySem.Spec PyProof.Rows L2

/-! ### lists -/
theorem pairedGet {α β : Type} {F : α → β → Prop} : ∀ {l : List α} {m : List β} {i : Nat} {y : β}, Paired F l m → m[i]? = some y → ∃ x, l[i]? = some x ∧ F x y
  | _, _, _, _, .nil, h => by simp at h
  | _, _, 0, _, .cons r _, h => by simp at h; subst h; exact ⟨_, rfl, r⟩
  | _, _, i + 1, _, .cons _ t, h => by
    obtain ⟨x, h1, h2⟩ := pairedGet (i := i) t (by simpa using h)
    exact ⟨x, by simpa using h1, h2⟩
theorem pairedSet {α β : Type} {F : α → β → Prop} {x : α} {y : β} (r : F x y) : ∀ {l : List α} {m : List β} (i : Nat), Paired F l m → Paired F (l.set i x) (m.set i y)
  | _, _, _, .nil => .nil
  | _, _, 0, .cons _ t => .cons r t
  | _, _, i + 1, .cons q t => .cons q (pairedSet r i t)
theorem pairedSetR {α β : Type} {F : α → β → Prop} : ∀ {l : List α} {m : List β} (i : Nat) {y : β}, Paired F l m → (∀ x, l[i]? = some x → F x y) → Paired F l (m.set i y)
  | _, _, _, _, .nil, _ => .nil
  | _, _, 0, _, .cons _ t, h => .cons (h _ rfl) t
  | _, _, i + 1, _, .cons q t, h => .cons q (pairedSetR i t fun x e => h x (by simpa using e))
theorem pairedApp {α β : Type} {F : α → β → Prop} : ∀ {l l' : List α} {m m' : List β}, Paired F l m → Paired F l' m' → Paired F (l ++ l') (m ++ m')
  | _, _, _, _, .nil, t => t
  | _, _, _, _, .cons r s, t => .cons r (pairedApp s t)
theorem pairedSplit {α β : Type} {F : α → β → Prop} : ∀ {l : List α} {m m' : List β}, Paired F l (m ++ m') → ∃ l1 l2, l = l1 ++ l2 ∧ Paired F l1 m ∧ Paired F l2 m'
  | l, [], m', h => ⟨[], l, rfl, .nil, h⟩
  | _, b :: m, m', .cons r t => by
    obtain ⟨l1, l2, e, h1, h2⟩ := pairedSplit (m := m) t
    exact ⟨_ :: l1, l2, by rw [e]; rfl, .cons r h1, h2⟩

/-! ### data: as the language's, and tuples that are known as objects -/
inductive Dat where
  | none
  | bool (b : Bool)
  | int (i : Int)
  | str (s : Str)
  | list (xs : List Dat)
  | tuple (xs : List Dat)
  | ftup (xs : List Dat)
  | dict (kvs : List (Dat × Dat))
mutual
def Dat.py : Dat → PyData
  | .none => .none
  | .bool b => .bool b
  | .int i => .int i
  | .str s => .str s
  | .list xs => .list (pyAll xs)
  | .tuple xs => .tuple (pyAll xs)
  | .ftup xs => .tuple (pyAll xs)
  | .dict kvs => .dict (pyPairs kvs)
def pyAll : List Dat → List PyData
  | [] => []
  | x :: xs => x.py :: pyAll xs
def pyPairs : List (Dat × Dat) → List (PyData × PyData)
  | [] => []
  | (k, v) :: xs => (k.py, v.py) :: pyPairs xs
end
theorem pyAll_map : ∀ xs : List Dat, pyAll xs = xs.map Dat.py
  | [] => rfl
  | x :: xs => by
    show x.py :: pyAll xs = _
    rw [pyAll_map xs]; rfl
theorem pyPairs_map : ∀ xs : List (Dat × Dat), pyPairs xs = xs.map fun p => (p.1.py, p.2.py)
  | [] => rfl
  | (k, v) :: xs => by
    show (k.py, v.py) :: pyPairs xs = _
    rw [pyPairs_map xs]; rfl
theorem pyPairs_fst (xs : List (Dat × Dat)) : (pyPairs xs).map (·.1) = pyAll (xs.map (·.1)) := by
  rw [pyPairs_map, pyAll_map, List.map_map, List.map_map]; rfl
theorem pyPairs_snd (xs : List (Dat × Dat)) : (pyPairs xs).map (·.2) = pyAll (xs.map (·.2)) := by
  rw [pyPairs_map, pyAll_map, List.map_map, List.map_map]; rfl
/-! ### values as data -/
def kD : L2.Key → Dat
  | .inl i => .int i
  | .inr x => .str x

mutual
inductive Rp (K : PySem.W.Frag) (G : Hp) : V → Dat → Prop
  | non : Rp K G .non .none
  | bl (b : Bool) : Rp K G (.bl b) (.bool b)
  | int (i : Int) : Rp K G (.int i) (.int i)
  | str (x : Str) : Rp K G (.str x) (.str x)
  | lst {a : Addr} {xs : List V} {ds : List Dat} : G a = some (.lst xs) → RpA K G xs ds → Rp K G (.ref a) (.list ds)
  | tup {a : Addr} {xs : List V} {ds : List Dat} : G a = some (.tup xs) → RpA K G xs ds → Rp K G (.ref a) (.tuple ds)
  | ftup {a : Addr} {ob : Obj} {xs : List V} {ds : List Dat} : G a = some (.frz ob (.tup xs)) → ob.dict = none → RpA K G xs ds → Rp K G (.ref a) (.ftup ds)
  | dk {a : Addr} {kvs : List (L2.Key × V)} {ds : List (Dat × Dat)} : G a = some (.dK kvs) → RpK K G kvs ds → Rp K G (.ref a) (.dict ds)
  | dt {a : Addr} {kvs : List (List L2.Key × V)} {ds : List (Dat × Dat)} : G a = some (.dT kvs) → kvs ≠ [] → RpT K G kvs ds → Rp K G (.ref a) (.dict ds)
inductive RpA (K : PySem.W.Frag) (G : Hp) : List V → List Dat → Prop
  | nil : RpA K G [] []
  | cons {v : V} {vs : List V} {d : Dat} {ds : List Dat} : Rp K G v d → RpA K G vs ds → RpA K G (v :: vs) (d :: ds)
inductive RpK (K : PySem.W.Frag) (G : Hp) : List (L2.Key × V) → List (Dat × Dat) → Prop
  | nil : RpK K G [] []
  | cons {k : L2.Key} {v : V} {vs : List (L2.Key × V)} {d : Dat} {ds : List (Dat × Dat)} : Rp K G v d → RpK K G vs ds → RpK K G ((k, v) :: vs) ((kD k, d) :: ds)
inductive RpT (K : PySem.W.Frag) (G : Hp) : List (List L2.Key × V) → List (Dat × Dat) → Prop
  | nil : RpT K G [] []
  | cons {k : List L2.Key} {v : V} {vs : List (List L2.Key × V)} {d : Dat} {ds : List (Dat × Dat)} : Rp K G v d → RpT K G vs ds → RpT K G ((k, v) :: vs) ((.tuple (k.map kD), d) :: ds)
end

/-- more is known -/
def Le (G G' : Hp) : Prop := ∀ a u, G a = some u → G' a = some u
theorem Le.refl (G : Hp) : Le G G := fun _ _ h => h
theorem Le.trans {G G1 G2 : Hp} (a : Le G G1) (b : Le G1 G2) : Le G G2 := fun c u h => b c u (a c u h)
theorem Le.upd {G : Hp} {p : Addr} {o : HO} (n : G p = none) : Le G (upd G p o) := fun b u h => by
  rw [upd_ne (ne_of_none h n)]
  exact h
theorem Le.rd {G G' : Hp} (l : Le G G') {a : Addr} {u : HO} (h : Rd G a u) : Rd G' a u := by
  rcases h with h | ⟨o, h⟩
  · exact .inl (l _ _ h)
  · exact .inr ⟨o, l _ _ h⟩
theorem Le.sqL {K : PySem.W.Frag} {G G' : Hp} (l : Le G G') {a : Addr} {xs : List V} (h : SqL K G a xs) : SqL K G' a xs := by
  rcases h with h | h
  · exact .inl (l.rd h)
  · exact .inr h
theorem Le.sqT {K : PySem.W.Frag} {G G' : Hp} (l : Le G G') {a : Addr} {xs : List V} (h : SqT K G a xs) : SqT K G' a xs := by
  rcases h with h | h
  · exact .inl (l.rd h)
  · exact .inr h
section
variable {K : PySem.W.Frag} {G G' : Hp}
mutual
theorem Rp.mono (l : Le G G') : ∀ {v : V} {d : Dat}, Rp K G v d → Rp K G' v d
  | _, _, .non => .non
  | _, _, .bl b => .bl b
  | _, _, .int i => .int i
  | _, _, .str x => .str x
  | _, _, .lst h r => .lst (l _ _ h) (r.mono l)
  | _, _, .tup h r => .tup (l _ _ h) (r.mono l)
  | _, _, .ftup h n r => .ftup (l _ _ h) n (r.mono l)
  | _, _, .dk h r => .dk (l _ _ h) (r.mono l)
  | _, _, .dt h n r => .dt (l _ _ h) n (r.mono l)
theorem RpA.mono (l : Le G G') : ∀ {v : List V} {d : List Dat}, RpA K G v d → RpA K G' v d
  | _, _, .nil => .nil
  | _, _, .cons h r => .cons (h.mono l) (r.mono l)
theorem RpK.mono (l : Le G G') : ∀ {v : List (L2.Key × V)} {d : List (Dat × Dat)}, RpK K G v d → RpK K G' v d
  | _, _, .nil => .nil
  | _, _, .cons h r => .cons (h.mono l) (r.mono l)
theorem RpT.mono (l : Le G G') : ∀ {v : List (List L2.Key × V)} {d : List (Dat × Dat)}, RpT K G v d → RpT K G' v d
  | _, _, .nil => .nil
  | _, _, .cons h r => .cons (h.mono l) (r.mono l)
end
end

/-! ### lists of data -/
section
variable {K : PySem.W.Frag} {G : Hp}
theorem RpA.length : ∀ {vs : List V} {ds : List Dat}, RpA K G vs ds → vs.length = ds.length
  | _, _, .nil => rfl
  | _, _, .cons _ t => by rw [List.length_cons, List.length_cons, RpA.length t]
theorem RpA.get : ∀ {vs : List V} {ds : List Dat} {i : Nat} {v : V}, RpA K G vs ds → vs[i]? = some v → ∃ d, ds[i]? = some d ∧ Rp K G v d
  | _, _, _, _, .nil, h => by simp at h
  | _, _, 0, _, .cons r _, h => by simp at h; subst h; exact ⟨_, rfl, r⟩
  | _, _, i + 1, _, .cons _ t, h => by
    obtain ⟨d, h1, h2⟩ := RpA.get (i := i) t (by simpa using h)
    exact ⟨d, by simpa using h1, h2⟩
theorem RpA.getR : ∀ {vs : List V} {ds : List Dat} {i : Nat} {d : Dat}, RpA K G vs ds → ds[i]? = some d → ∃ v, vs[i]? = some v ∧ Rp K G v d
  | _, _, _, _, .nil, h => by simp at h
  | _, _, 0, _, .cons r _, h => by simp at h; subst h; exact ⟨_, rfl, r⟩
  | _, _, i + 1, _, .cons _ t, h => by
    obtain ⟨d, h1, h2⟩ := RpA.getR (i := i) t (by simpa using h)
    exact ⟨d, by simpa using h1, h2⟩
theorem RpA.app : ∀ {vs ws : List V} {ds es : List Dat}, RpA K G vs ds → RpA K G ws es → RpA K G (vs ++ ws) (ds ++ es)
  | _, _, _, _, .nil, t => t
  | _, _, _, _, .cons r s, t => .cons r (RpA.app s t)
theorem RpA.set {x : V} {y : Dat} (r : Rp K G x y) : ∀ {vs : List V} {ds : List Dat} (i : Nat), RpA K G vs ds → RpA K G (vs.set i x) (ds.set i y)
  | _, _, _, .nil => .nil
  | _, _, 0, .cons _ t => .cons r t
  | _, _, i + 1, .cons q t => .cons q (RpA.set r i t)
theorem RpA.take : ∀ {vs : List V} {ds : List Dat} (n : Nat), RpA K G vs ds → RpA K G (vs.take n) (ds.take n)
  | _, _, 0, _ => .nil
  | _, _, _ + 1, .nil => .nil
  | _, _, n + 1, .cons r t => .cons r (RpA.take n t)
theorem RpA.drop : ∀ {vs : List V} {ds : List Dat} (n : Nat), RpA K G vs ds → RpA K G (vs.drop n) (ds.drop n)
  | _, _, 0, r => r
  | _, _, _ + 1, .nil => .nil
  | _, _, n + 1, .cons _ t => RpA.drop n t
theorem RpA.rev : ∀ {vs : List V} {ds : List Dat}, RpA K G vs ds → RpA K G vs.reverse ds.reverse
  | _, _, .nil => .nil
  | _, _, .cons r t => by
    rw [List.reverse_cons, List.reverse_cons]
    exact (RpA.rev t).app (.cons r .nil)
theorem RpA.ints : ∀ {ns : List Int} {vs : List V}, RpA K G vs (ns.map Dat.int) → vs = ns.map V.int
  | [], _, .nil => rfl
  | n :: ns, _, .cons (.int _) t => by rw [List.map_cons, RpA.ints (ns := ns) t]
theorem RpA.strs : ∀ {ns : List Str} {vs : List V}, RpA K G vs (ns.map Dat.str) → vs = ns.map V.str
  | [], _, .nil => rfl
  | n :: ns, _, .cons (.str _) t => by rw [List.map_cons, RpA.strs (ns := ns) t]
theorem RpA.bls : ∀ {ns : List Bool} {vs : List V}, RpA K G vs (ns.map Dat.bool) → vs = ns.map V.bl
  | [], _, .nil => rfl
  | n :: ns, _, .cons (.bl _) t => by rw [List.map_cons, RpA.bls (ns := ns) t]
theorem RpA.ofInts : ∀ ns : List Int, RpA K G (ns.map V.int) (ns.map Dat.int)
  | [] => .nil
  | n :: ns => .cons (.int n) (RpA.ofInts ns)
theorem RpA.ofStrs : ∀ ns : List Str, RpA K G (ns.map V.str) (ns.map Dat.str)
  | [] => .nil
  | n :: ns => .cons (.str n) (RpA.ofStrs ns)
end

/-! ### what is known of the heap -/
def IsDct : HO → Prop
  | .dK _ => True
  | .dT _ => True
  | _ => False
structure Wd (G H : Hp) : Prop where
  sub : ∀ a u, G a = some u → H a = some u ∨ (IsDct u ∧ ∃ o, H a = some (.frz o u))
  tup : ∀ a xs, H a = some (.tup xs) → G a = some (.tup xs)
theorem Wd.rd {G H : Hp} (w : Wd G H) {a : Addr} {u : HO} (h : G a = some u) : Rd H a u := by
  rcases w.sub a u h with h | ⟨_, o, h⟩
  · exact .inl h
  · exact .inr ⟨o, h⟩
theorem Wd.rd2 {G H : Hp} (w : Wd G H) {a : Addr} {u : HO} (h : Rd G a u) : Rd H a u := by
  rcases h with h | ⟨o, h⟩
  · exact w.rd h
  · rcases w.sub _ _ h with h | ⟨m, _⟩
    · exact .inr ⟨o, h⟩
    · exact False.elim m
theorem Wd.sqL {K : PySem.W.Frag} {G H : Hp} (w : Wd G H) {a : Addr} {xs : List V} (h : SqL K G a xs) : SqL K H a xs := by
  rcases h with h | h
  · exact .inl (w.rd2 h)
  · exact .inr h
theorem Wd.sqT {K : PySem.W.Frag} {G H : Hp} (w : Wd G H) {a : Addr} {xs : List V} (h : SqT K G a xs) : SqT K H a xs := by
  rcases h with h | h
  · exact .inl (w.rd2 h)
  · exact .inr h
theorem Wd.lstH {G H : Hp} (w : Wd G H) {a : Addr} {xs : List V} (h : G a = some (.lst xs)) : H a = some (.lst xs) := by
  rcases w.sub a _ h with h | ⟨m, _⟩
  · exact h
  · exact False.elim m
theorem Wd.tupH {G H : Hp} (w : Wd G H) {a : Addr} {xs : List V} (h : G a = some (.tup xs)) : H a = some (.tup xs) := by
  rcases w.sub a _ h with h | ⟨m, _⟩
  · exact h
  · exact False.elim m
theorem Wd.frzT {G H : Hp} (w : Wd G H) {a : Addr} {ob : Obj} {xs : List V} (h : G a = some (.frz ob (.tup xs))) : H a = some (.frz ob (.tup xs)) := by
  rcases w.sub a _ h with h | ⟨m, _⟩
  · exact h
  · exact False.elim m
theorem Wd.none {G H : Hp} (w : Wd G H) {a : Addr} (h : H a = Option.none) : G a = Option.none := by
  cases q : G a with
  | none => rfl
  | some u =>
    rcases w.sub a u q with z | ⟨_, o, z⟩
    · rw [h] at z; cases z
    · rw [h] at z; cases z
/-- a new object that stays as it is -/
theorem Wd.new {G H : Hp} (w : Wd G H) {p : Addr} {o : HO} (n : H p = Option.none) : Wd (upd G p o) (upd H p o) where
  sub := fun a u h => by
    by_cases e : a = p
    · subst e; rw [upd_same] at h; exact .inl (by rw [upd_same]; exact h)
    · rw [upd_ne e] at h
      rw [upd_ne e]
      exact w.sub a u h
  tup := fun a xs h => by
    by_cases e : a = p
    · subst e; rw [upd_same] at h; rw [upd_same]; exact h
    · rw [upd_ne e] at h
      rw [upd_ne e]
      exact w.tup a xs h
/-- an object that is not among the known is made or changed -/
theorem Wd.own {G H : Hp} (w : Wd G H) {p : Addr} {o : HO} (n : G p = Option.none) (h : ∀ xs, o ≠ .tup xs) : Wd G (upd H p o) where
  sub := fun a u e => by
    rw [upd_ne (ne_of_none e n)]
    exact w.sub a u e
  tup := fun a xs e => by
    by_cases z : a = p
    · subst z; rw [upd_same] at e; exact absurd (Option.some.inj e) (h xs)
    · rw [upd_ne z] at e
      exact w.tup a xs e
/-- a known object is locked -/
theorem Wd.lock {G H : Hp} (w : Wd G H) {p : Addr} {o : HO} {ob : Obj} (g : G p = some o) (m : IsDct o) : Wd G (upd H p (.frz ob o)) where
  sub := fun a u e => by
    by_cases z : a = p
    · subst z; rw [g] at e; cases e; exact .inr ⟨m, ob, upd_same⟩
    · rw [upd_ne z]
      exact w.sub a u e
  tup := fun a xs e => by
    by_cases z : a = p
    · subst z; rw [upd_same] at e; cases e
    · rw [upd_ne z] at e
      exact w.tup a xs e
theorem Wd.unlock {G H : Hp} (w : Wd G H) {p : Addr} {o : HO} (g : G p = some o) (m : ∀ xs, o ≠ .tup xs) : Wd G (upd H p o) where
  sub := fun a u e => by
    by_cases z : a = p
    · subst z; rw [g] at e; cases e; exact .inl upd_same
    · rw [upd_ne z]
      exact w.sub a u e
  tup := fun a xs e => by
    by_cases z : a = p
    · subst z; rw [upd_same] at e; exact absurd (Option.some.inj e) (m xs)
    · rw [upd_ne z] at e
      exact w.tup a xs e
/-- what was one's own is known from now on -/
theorem Wd.give {G H : Hp} (w : Wd G H) {p : Addr} {o : HO} (h : H p = some o) : Wd (upd G p o) H where
  sub := fun a u e => by
    by_cases z : a = p
    · subst z; rw [upd_same] at e; cases e; exact .inl h
    · rw [upd_ne z] at e
      exact w.sub a u e
  tup := fun a xs e => by
    by_cases z : a = p
    · subst z; rw [h] at e; rw [upd_same]; exact e
    · rw [upd_ne z]
      exact w.tup a xs e

/-! ### cells -/
/-- an object of one's own: data (a list, a dict), a Store -/
inductive Ow where
  | d (d : Dat)
  | t (ds : List (Dat × Dat))
  | st (C dx ra ta na : Addr) (house : Dat) (rows things : List Dat) (names : List (Dat × Dat))
inductive Cell where
  | no
  | sc (ds : List Dat)
  | im (d : Dat)
  | ow (a : Addr) (o : Ow)
def foot (a : Addr) : Ow → List Addr
  | .d _ => [a]
  | .t _ => [a]
  | .st _ dx ra ta na _ _ _ _ => [a, dx, ra, ta, na]
def feetC : Cell → List Addr
  | .ow a o => foot a o
  | _ => []
def feet (l : List Cell) : List Addr := l.flatMap feetC
def OwAt (K : PySem.W.Frag) (G H : Hp) (a : Addr) : Ow → Prop
  | .d (.list ds) => ∃ xs, H a = some (.lst xs) ∧ RpA K G xs ds ∧ G a = none
  | .d (.dict ds) => ∃ kvs, H a = some (.dK kvs) ∧ RpK K G kvs ds ∧ G a = none
  | .d _ => False
  | .t ds => ∃ kvs, H a = some (.dT kvs) ∧ RpT K G kvs ds ∧ G a = none
  | .st C dx ra ta na hd rows things names => (∃ hv, Rp K G hv hd ∧ SlX.Slt H a C dx [some hv, some (.ref na), some (.ref ra), some (.ref ta)]) ∧ (∀ x ∈ [a, dx, ra, ta, na], G x = none) ∧ [a, dx, ra, ta, na].Nodup ∧
      (∃ xs, H ra = some (.lst xs) ∧ RpA K G xs rows) ∧ (∃ xs, H ta = some (.lst xs) ∧ RpA K G xs things) ∧ ∃ kvs, H na = some (.dK kvs) ∧ RpK K G kvs names
def CellOk (K : PySem.W.Frag) (G H : Hp) (v : Option V) : Cell → Prop
  | .no => True
  | .sc ds => ∃ a xs, v = some (.ref a) ∧ SqL K G a xs ∧ RpA K G xs ds
  | .im d => ∃ x, v = some x ∧ Rp K G x d
  | .ow a o => v = some (.ref a) ∧ OwAt K G H a o
theorem OwAt.none {K : PySem.W.Frag} {G H : Hp} {a : Addr} {o : Ow} (h : OwAt K G H a o) : ∀ b ∈ foot a o, G b = Option.none := by
  cases o with
  | d d =>
    intro b hb
    have e : b = a := by simpa [foot] using hb
    subst e
    cases d with
    | list ds => obtain ⟨_, _, _, n⟩ := h; exact n
    | dict ds => obtain ⟨_, _, _, n⟩ := h; exact n
    | _ => exact False.elim h
  | t ds =>
    intro b hb
    have e : b = a := by simpa [foot] using hb
    subst e
    obtain ⟨_, _, _, n⟩ := h
    exact n
  | st C dx ra ta na hd rows things names => exact h.2.1
theorem OwAt.there {K : PySem.W.Frag} {G H : Hp} {a : Addr} {o : Ow} (h : OwAt K G H a o) : ∃ u, H a = some u := by
  cases o with
  | d d =>
    cases d with
    | list ds => obtain ⟨_, e, _⟩ := h; exact ⟨_, e⟩
    | dict ds => obtain ⟨_, e, _⟩ := h; exact ⟨_, e⟩
    | _ => exact False.elim h
  | t ds => obtain ⟨_, e, _⟩ := h; exact ⟨_, e⟩
  | st C dx ra ta na hd rows things names =>
    obtain ⟨⟨hv, _, sl⟩, _⟩ := h
    rcases sl with ⟨e, _⟩ | ⟨e, _⟩
    · exact ⟨_, e⟩
    · exact ⟨_, e⟩
theorem OwAt.keep {K : PySem.W.Frag} {G H G' H' : Hp} {a : Addr} {o : Ow} (h : OwAt K G H a o) (l : Le G G') (k : ∀ b ∈ foot a o, ∀ u, H b = some u → H' b = some u) (n : ∀ b ∈ foot a o, G' b = Option.none) : OwAt K G' H' a o := by
  cases o with
  | d d =>
    have ka : ∀ u, H a = some u → H' a = some u := k a (by simp [foot])
    have na := n a (by simp [foot])
    cases d with
    | list ds =>
      obtain ⟨xs, e, r, _⟩ := h
      exact ⟨xs, ka _ e, r.mono l, na⟩
    | dict ds =>
      obtain ⟨kvs, e, r, _⟩ := h
      exact ⟨kvs, ka _ e, r.mono l, na⟩
    | _ => exact False.elim h
  | t ds =>
    obtain ⟨kvs, e, r, _⟩ := h
    exact ⟨kvs, k a (by simp [foot]) _ e, r.mono l, n a (by simp [foot])⟩
  | st C dx ra ta na hd rows things names =>
    obtain ⟨⟨hv, rh, sl⟩, _, nd, ⟨xr, er, rr⟩, ⟨xt, et, rt⟩, kn, en, rn⟩ := h
    refine ⟨⟨hv, rh.mono l, ?_⟩, n, nd, ⟨xr, k ra (by simp [foot]) _ er, rr.mono l⟩, ⟨xt, k ta (by simp [foot]) _ et, rt.mono l⟩, kn, k na (by simp [foot]) _ en, rn.mono l⟩
    rcases sl with ⟨e, z⟩ | ⟨e, z⟩
    · exact .inl ⟨k a (by simp [foot]) _ e, z⟩
    · exact .inr ⟨k a (by simp [foot]) _ e, k dx (by simp [foot]) _ z⟩

/-- two cells stand apart -/
def Apart (c c' : Cell) : Prop := ∀ x ∈ feetC c, x ∉ feetC c'
theorem Apart.symm {c c' : Cell} (h : Apart c c') : Apart c' c := fun x hx hy => h x hy hx
structure Mt (K : PySem.W.Frag) (G H : Hp) (σ : L2.St) (δ : List Cell) : Prop where
  wd : Wd G H
  at_ : Paired (fun v c => CellOk K G H v c) σ δ
  sep : δ.Pairwise Apart
/-- what a step leaves: F what it may change, F' what is one's own behind it -/
structure Fr (F : List Addr) (G H : Hp) (F' : List Addr) (G' H' : Hp) : Prop where
  gg : Le G G'
  hh : ∀ b u, H b = some u → b ∉ F → H' b = some u
  ff : ∀ b ∈ F', b ∈ F ∨ H b = none
  nn : ∀ b u, H b = some u → G b = none → b ∉ F → G' b = none
theorem Fr.refl (F : List Addr) (G H : Hp) : Fr F G H F G H := ⟨Le.refl G, fun _ _ h _ => h, fun _ h => .inl h, fun _ _ _ h _ => h⟩
theorem Fr.trans {F F1 F2 : List Addr} {G H G1 H1 G2 H2 : Hp} (a : Fr F G H F1 G1 H1) (b : Fr F1 G1 H1 F2 G2 H2) : Fr F G H F2 G2 H2 where
  gg := a.gg.trans b.gg
  hh := fun c u h n => b.hh c u (a.hh c u h n) fun m => by
    rcases a.ff c m with z | z
    · exact n z
    · rw [h] at z; cases z
  ff := fun c m => by
    rcases b.ff c m with z | z
    · exact a.ff c z
    · by_cases hF : c ∈ F
      · exact .inl hF
      · cases q : H c with
        | none => exact .inr rfl
        | some u => rw [a.hh c u q hF] at z; cases z
  nn := fun c u h g n => b.nn c u (a.hh c u h n) (a.nn c u h g n) fun m => by
    rcases a.ff c m with z | z
    · exact n z
    · rw [h] at z; cases z
theorem Fr.mono {F F' E E' : List Addr} {G H G1 H1 : Hp} (a : Fr F G H F' G1 H1) (h1 : ∀ b ∈ F, b ∈ E) (h2 : ∀ b ∈ E', b ∈ F' ∨ b ∈ E ∨ H b = none) : Fr E G H E' G1 H1 where
  gg := a.gg
  hh := fun b u h n => a.hh b u h fun m => n (h1 b m)
  ff := fun b m => by
    rcases h2 b m with z | z | z
    · rcases a.ff b z with y | y
      · exact .inl (h1 b y)
      · exact .inr y
    · exact .inl z
    · exact .inr z
  nn := fun b u h g n => a.nn b u h g fun m => n (h1 b m)
theorem Fr.less {F F' E' : List Addr} {G H G1 H1 : Hp} (a : Fr F G H F' G1 H1) (h2 : ∀ b ∈ E', b ∈ F') : Fr F G H E' G1 H1 := a.mono (fun _ h => h) fun b h => .inl (h2 b h)

/-! ### cells in a row -/
theorem mem_feet {l : List Cell} {b : Addr} : b ∈ feet l ↔ ∃ c ∈ l, b ∈ feetC c := by
  unfold feet
  rw [List.mem_flatMap]
theorem feet_cons (c : Cell) (l : List Cell) : feet (c :: l) = feetC c ++ feet l := by
  unfold feet
  rw [List.flatMap_cons]
theorem feet_im (d : Dat) (l : List Cell) : feet (.im d :: l) = feet l := by
  rw [feet_cons]; rfl
theorem feet_app (l m : List Cell) : feet (l ++ m) = feet l ++ feet m := by
  unfold feet
  rw [List.flatMap_append]
theorem pwSet {l : List Cell} {r : Cell} (h : l.Pairwise Apart) (hr : ∀ c ∈ l, Apart r c) : ∀ i, (l.set i r).Pairwise Apart := by
  induction l with
  | nil => intro i; exact List.Pairwise.nil
  | cons c l ih =>
    intro i
    obtain ⟨h1, h2⟩ := List.pairwise_cons.mp h
    cases i with
    | zero => exact List.pairwise_cons.mpr ⟨fun x hx => hr x (List.mem_cons_of_mem _ hx), h2⟩
    | succ i =>
      refine List.pairwise_cons.mpr ⟨fun x hx => ?_, ih h2 (fun x hx => hr x (List.mem_cons_of_mem _ hx)) i⟩
      rcases List.mem_or_eq_of_mem_set hx with z | z
      · exact h1 x z
      · rw [z]; exact (hr c List.mem_cons_self).symm
theorem apart_im (d : Dat) (c : Cell) : Apart (.im d) c := fun x hx => absurd (show x ∈ ([] : List Addr) from hx) List.not_mem_nil
theorem apart_no (c : Cell) : Apart .no c := fun x hx => absurd (show x ∈ ([] : List Addr) from hx) List.not_mem_nil
theorem feet_set {l : List Cell} {i : Nat} {r : Cell} {b : Addr} (h : b ∈ feet (l.set i r)) : b ∈ feet l ∨ b ∈ feetC r := by
  obtain ⟨c, hc, hb⟩ := mem_feet.mp h
  rcases List.mem_or_eq_of_mem_set hc with z | z
  · exact .inl (mem_feet.mpr ⟨c, z, hb⟩)
  · rw [z] at hb; exact .inr hb
section
variable {K : PySem.W.Frag} {G H G' H' : Hp} {σ : L2.St} {δ : List Cell}
theorem Mt.len (m : Mt K G H σ δ) : σ.length = δ.length := m.at_.length
theorem Mt.get (m : Mt K G H σ δ) {i : Nat} {c : Cell} (h : δ[i]? = some c) : ∃ v, σ[i]? = some v ∧ CellOk K G H v c := pairedGet m.at_ h
theorem CellOk.keep {v : Option V} {c : Cell} (h : CellOk K G H v c) (l : Le G G') (k : ∀ b ∈ feetC c, ∀ u, H b = some u → H' b = some u) (n : ∀ b ∈ feetC c, G' b = Option.none) : CellOk K G' H' v c := by
  cases c with
  | no => trivial
  | sc ds => obtain ⟨a, xs, e, q, r⟩ := h; exact ⟨a, xs, e, l.sqL q, r.mono l⟩
  | im d => obtain ⟨x, e, r⟩ := h; exact ⟨x, e, r.mono l⟩
  | ow a o => exact ⟨h.1, h.2.keep l k n⟩
theorem CellOk.none {v : Option V} {c : Cell} (h : CellOk K G H v c) : ∀ b ∈ feetC c, G b = Option.none := by
  cases c with
  | no => intro b hb; exact absurd (show b ∈ ([] : List Addr) from hb) List.not_mem_nil
  | sc ds => intro b hb; exact absurd (show b ∈ ([] : List Addr) from hb) List.not_mem_nil
  | im d => intro b hb; exact absurd (show b ∈ ([] : List Addr) from hb) List.not_mem_nil
  | ow a o => exact h.2.none
theorem OwAt.all {K : PySem.W.Frag} {G H : Hp} {a : Addr} {o : Ow} (h : OwAt K G H a o) : ∀ b ∈ foot a o, ∃ u, H b = some u := by
  cases o with
  | d d =>
    intro b hb
    have e : b = a := by simpa [foot] using hb
    subst e
    exact h.there
  | t ds =>
    intro b hb
    have e : b = a := by simpa [foot] using hb
    subst e
    exact h.there
  | st C dx ra ta na hd rows things names =>
    obtain ⟨⟨hv, rh, sl⟩, _, nd, ⟨xr, er, rr⟩, ⟨xt, et, rt⟩, kn, en, rn⟩ := h
    intro b hb
    have hb' : b = a ∨ b = dx ∨ b = ra ∨ b = ta ∨ b = na := by simpa [foot] using hb
    rcases hb' with z | z | z | z | z
    · subst z
      rcases sl with ⟨e, _⟩ | ⟨e, _⟩
      · exact ⟨_, e⟩
      · exact ⟨_, e⟩
    · subst z
      rcases sl with ⟨e, z⟩ | ⟨_, e⟩
      · cases z
      · exact ⟨_, e⟩
    · subst z; exact ⟨_, er⟩
    · subst z; exact ⟨_, et⟩
    · subst z; exact ⟨_, en⟩
theorem CellOk.all {v : Option V} {c : Cell} (h : CellOk K G H v c) : ∀ b ∈ feetC c, ∃ u, H b = some u := by
  cases c with
  | no => intro b hb; exact absurd (show b ∈ ([] : List Addr) from hb) List.not_mem_nil
  | sc ds => intro b hb; exact absurd (show b ∈ ([] : List Addr) from hb) List.not_mem_nil
  | im d => intro b hb; exact absurd (show b ∈ ([] : List Addr) from hb) List.not_mem_nil
  | ow a o => exact h.2.all
theorem pairedKeep {F F' : Option V → Cell → Prop} : ∀ {σ : L2.St} {δ : List Cell}, Paired F σ δ → (∀ v c, c ∈ δ → F v c → F' v c) → Paired F' σ δ
  | _, _, .nil, _ => .nil
  | _, _, .cons r t, h => .cons (h _ _ List.mem_cons_self r) (pairedKeep t fun v c m => h v c (List.mem_cons_of_mem _ m))
/-- a step that changes nothing of these -/
theorem Mt.step (m : Mt K G H σ δ) {F F' : List Addr} (f : Fr F G H F' G' H') (w : Wd G' H') (ap : ∀ b ∈ feet δ, b ∉ F) : Mt K G' H' σ δ := by
  refine ⟨w, pairedKeep m.at_ fun v c hc h => ?_, m.sep⟩
  have ap' : ∀ b ∈ feetC c, b ∉ F := fun b hb => ap b (mem_feet.mpr ⟨c, hc, hb⟩)
  refine h.keep f.gg (fun b hb u e => f.hh b u e (ap' b hb)) fun b hb => ?_
  obtain ⟨u, e⟩ := h.all b hb
  exact f.nn b u e (h.none b hb) (ap' b hb)
theorem Mt.none (m : Mt K G H σ δ) : ∀ b ∈ feet δ, G b = Option.none := fun b hb => by
  obtain ⟨c, hc, hb⟩ := mem_feet.mp hb
  obtain ⟨i, hi⟩ := List.getElem?_of_mem hc
  obtain ⟨v, _, h⟩ := m.get hi
  exact h.none b hb
theorem Mt.all (m : Mt K G H σ δ) : ∀ b ∈ feet δ, ∃ u, H b = some u := fun b hb => by
  obtain ⟨c, hc, hb⟩ := mem_feet.mp hb
  obtain ⟨i, hi⟩ := List.getElem?_of_mem hc
  obtain ⟨v, _, h⟩ := m.get hi
  exact h.all b hb
theorem Mt.tail {v : Option V} {c : Cell} (m : Mt K G H (v :: σ) (c :: δ)) : Mt K G H σ δ := by
  obtain ⟨w, p, s⟩ := m
  cases p with
  | cons r t => exact ⟨w, t, (List.pairwise_cons.mp s).2⟩
theorem Mt.head {v : Option V} {c : Cell} (m : Mt K G H (v :: σ) (c :: δ)) : CellOk K G H v c ∧ ∀ c' ∈ δ, Apart c c' := by
  obtain ⟨w, p, s⟩ := m
  cases p with
  | cons r t => exact ⟨r, (List.pairwise_cons.mp s).1⟩
/-- a result goes into a slot -/
theorem Mt.put {v : V} {r : Cell} (m : Mt K G H (some v :: σ) (r :: δ)) (i : Nat) : Mt K G H (σ.set i (some v)) (δ.set i r) :=
  ⟨m.wd, pairedSet m.head.1 i m.tail.at_, pwSet m.tail.sep m.head.2 i⟩
theorem Mt.im {v : V} {d : Dat} (m : Mt K G H σ δ) (r : Rp K G v d) : Mt K G H (some v :: σ) (.im d :: δ) :=
  ⟨m.wd, .cons ⟨v, rfl, r⟩ m.at_, List.pairwise_cons.mpr ⟨fun c _ => apart_im d c, m.sep⟩⟩
theorem Mt.rp {v : Option V} {d : Dat} (m : Mt K G H (v :: σ) (.im d :: δ)) : ∃ x, v = some x ∧ Rp K G x d := m.head.1
end
end K94
end

/-! text KB -/
section
set_option Elab.async false
set_option linter.all false
set_option maxRecDepth 100000
set_option maxHeartbeats 4000000
set_option autoImplicit true
/-! the judgements over data -/
namespace K94
open PySem PySem.Spec PyProof.Rows L2
abbrev SS : Type := List (Option V)

section
variable {K : PySem.W.Frag} {G H G' H' : Hp} {σ σ' : SS} {δ δ' : List Cell}
/-- what stands beside stays -/
theorem Mt.frame {v : Option V} {c : Cell} (m : Mt K G H (v :: σ) (c :: δ)) (m' : Mt K G' H' σ' δ') (f : Fr (feet δ) G H (feet δ') G' H') : Mt K G' H' (v :: σ') (c :: δ') := by
  obtain ⟨hc, ha⟩ := m.head
  have off : ∀ b ∈ feetC c, b ∉ feet δ := fun b hb hm => by
    obtain ⟨c', hc', hb'⟩ := mem_feet.mp hm
    exact ha c' hc' b hb hb'
  refine ⟨m'.wd, .cons (hc.keep f.gg (fun b hb u e => f.hh b u e (off b hb)) fun b hb => ?_) m'.at_, List.pairwise_cons.mpr ⟨fun c' hc' b hb hb' => ?_, m'.sep⟩⟩
  · obtain ⟨u, e⟩ := hc.all b hb
    exact f.nn b u e (hc.none b hb) (off b hb)
  · rcases f.ff b (mem_feet.mpr ⟨c', hc', hb'⟩) with z | z
    · exact off b hb z
    · obtain ⟨u, e⟩ := hc.all b hb
      rw [e] at z; cases z
theorem Fr.consC {F F' : List Addr} (c : Cell) (δ δ' : List Cell) (f : Fr (feet δ) G H (feet δ') G' H') : Fr (feet (c :: δ)) G H (feet (c :: δ')) G' H' :=
  f.mono (fun b hb => by rw [feet_cons]; exact List.mem_append_right _ hb) fun b hb => by
    rw [feet_cons] at hb
    rcases List.mem_append.mp hb with z | z
    · exact .inr (.inl (by rw [feet_cons]; exact List.mem_append_left _ z))
    · exact .inl z
/-- nothing of one's own is touched -/
abbrev Ext (G H G' H' : Hp) : Prop := Fr [] G H [] G' H'
theorem Ext.up (e : Ext G H G' H') (F : List Addr) : Fr F G H F G' H' := Fr.mono e (fun _ h => absurd h List.not_mem_nil) fun b h => .inr (.inl h)
theorem Mt.ext (m : Mt K G H σ δ) (e : Ext G H G' H') (w : Wd G' H') : Mt K G' H' σ δ := m.step e w fun _ _ => List.not_mem_nil
theorem Ext.new {p : Addr} {o : HO} (w : Wd G H) (n : H p = none) : Ext G H (upd G p o) (upd H p o) where
  gg := Le.upd (w.none n)
  hh := fun b u e _ => by rw [upd_ne (ne_of_none e n)]; exact e
  ff := fun b h => absurd h List.not_mem_nil
  nn := fun b u e g _ => by rw [upd_ne (ne_of_none e n)]; exact g
end

/-! ### wishes -/
section
variable (X : Cx)
def wpE (e : Expr) (σ : SS) (H : Hp) (Q : VK) : Prop := ∀ (pins : List (Addr × Obj)) (s : Shared), Inv X pins σ H s → wpAny (model X.prog X.w) X.A (eval e X.env) (EP X pins σ Q) X.xe s
def wpT (e : Expr) (σ : SS) (H : Hp) (Q : Bool → Hp → Prop) : Prop := ∀ (pins : List (Addr × Obj)) (s : Shared), Inv X pins σ H s → wpAny (model X.prog X.w) X.A (isTrue e X.env (eval e X.env)) (TP X pins σ Q) X.xe s
def wpW (e : Expr) (σ : SS) (H : Hp) (Q : Bool → Hp → Prop) : Prop := ∀ (whole : Sem Value) (pins : List (Addr × Obj)) (s : Shared), Inv X pins σ H s → wpAny (model X.prog X.w) X.A (isTrue e X.env whole) (TP X pins σ Q) X.xe s
def wpA (es : List Expr) (σ : SS) (H : Hp) (Q : List V → Hp → Prop) : Prop := ∀ (pos : Pos) (pins : List (Addr × Obj)) (s : Shared), Inv X pins σ H s → wpAny (model X.prog X.w) X.A (spliced (backTo pos (starEach es X.env))) (AP X pins σ Q) X.xe s
def wpS (st : Stmt) (σ : SS) (H : Hp) (D : Ends) : Prop := ∀ (pins : List (Addr × Obj)) (s : Shared), Inv X pins σ H s → wpAny (model X.prog X.w) X.A (exec st X.env) (SP X pins D) X.xe s
def wpSs (ss : List Stmt) (σ : SS) (H : Hp) (D : Ends) : Prop := ∀ (pins : List (Addr × Obj)) (s : Shared), Inv X pins σ H s → wpAny (model X.prog X.w) X.A (execs ss X.env) (SP X pins D) X.xe s
def wpG (tg : Expr) (v : V) (σ : SS) (H : Hp) (Q : SS → Hp → Prop) : Prop := ∀ (pins : List (Addr × Obj)) (s : Shared) (u : Value), Inv X pins σ H s → RelV v u →
  wpAny (model X.prog X.w) X.A (assign tg X.env u) (fun _ s' => ∃ σ' H', Inv X pins σ' H' s' ∧ Q σ' H') X.xe s
def wp2 (f : Value → Value → Sem Value) (x y : V) (H : Hp) (Q : VK) : Prop := ∀ (pins : List (Addr × Obj)) (s : Shared) (σ : SS) (v u : Value), Inv X pins σ H s → RelV x v → RelV y u → wpAny (model X.prog X.w) X.A (f v u) (EP X pins σ Q) X.xe s
def wpI (tg iter : Expr) (σ : SS) (H : Hp) (R : It → Hp → Prop) : Prop := ∀ (pins : List (Addr × Obj)) (s : Shared), Inv X pins σ H s →
  wpAny (model X.prog X.w) X.A (eval iter X.env) (fun v s1 => wpAny (model X.prog X.w) X.A (pyIter v) (PIE X pins σ tg R) X.xe s1) X.xe s
end
section
variable {X : Cx} {e : Expr} {es : List Expr} {st : Stmt} {ss : List Stmt} {σ : SS} {H : Hp}
theorem peW : PE X e (wpE X e) := ⟨fun pins s σ H Q I h => h pins s I⟩
theorem ptW : PT X e (wpT X e) := ⟨fun pins s σ H Q I h => h pins s I⟩
theorem pwW : PW X e (wpW X e) := ⟨fun wh pins s σ H Q I h => h wh pins s I⟩
theorem paW : PA X es (wpA X es) := ⟨fun pos pins s σ H Q I h => h pos pins s I⟩
theorem psW : PS X st (fun D σ H => wpS X st σ H D) := ⟨fun pins s σ H D I h => h pins s I⟩
theorem pssW : PSs X ss (fun D σ H => wpSs X ss σ H D) := ⟨fun pins s σ H D I h => h pins s I⟩
theorem pgW : PG X e (wpG X e) := ⟨fun pins s σ H v u Q I r h => h pins s u I r⟩
theorem piW {tg : Expr} : PI X tg e (wpI X tg e) := ⟨fun pins s σ H R I h => h pins s I⟩
theorem opW {f : Value → Value → Sem Value} : OpR X f (wp2 X f) := fun pins s σ H x y v u Q I rx ry h => h pins s σ v u I rx ry
theorem PE.w {t : TE} (p : PE X e t) {Q : VK} (h : t σ H Q) : wpE X e σ H Q := fun pins s I => p.run pins s σ H Q I h
theorem PT.w {t : TT} (p : PT X e t) {Q : Bool → Hp → Prop} (h : t σ H Q) : wpT X e σ H Q := fun pins s I => p.run pins s σ H Q I h
theorem PW.w {t : TT} (p : PW X e t) {Q : Bool → Hp → Prop} (h : t σ H Q) : wpW X e σ H Q := fun wh pins s I => p.run wh pins s σ H Q I h
theorem PA.w {t : TA} (p : PA X es t) {Q : List V → Hp → Prop} (h : t σ H Q) : wpA X es σ H Q := fun pos pins s I => p.run pos pins s σ H Q I h
theorem PS.w {t : TS} (p : PS X st t) {D : Ends} (h : t D σ H) : wpS X st σ H D := fun pins s I => p.run pins s σ H D I h
theorem PSs.w {t : TS} (p : PSs X ss t) {D : Ends} (h : t D σ H) : wpSs X ss σ H D := fun pins s I => p.run pins s σ H D I h
theorem PG.w {t : TG} (p : PG X e t) {v : V} {Q : SS → Hp → Prop} (h : t v σ H Q) : wpG X e v σ H Q := fun pins s u I r => p.run pins s σ H v u Q I r h
theorem PI.w {tg : Expr} {t : TI} (p : PI X tg e t) {R : It → Hp → Prop} (h : t σ H R) : wpI X tg e σ H R := fun pins s I => p.run pins s σ H R I h
theorem OpR.w {f : Value → Value → Sem Value} {r : R2} (p : OpR X f r) {x y : V} {Q : VK} (h : r x y H Q) : wp2 X f x y H Q := fun pins s σ v u I rx ry => p pins s σ H x y v u Q I rx ry h
end

/-! ### the judgements -/
/-- what a step may give: a result, the cells behind it -/
def Post (K : PySem.W.Frag) (F : List Addr) (G H : Hp) (σ : SS) (Φ : Cell → List Cell → Prop) (Q : VK) : Prop :=
  ∀ (r : Cell) (δ' : List Cell) (v : V) (G' H' : Hp), Φ r δ' → Mt K G' H' (some v :: σ) (r :: δ') → Fr F G H (feet (r :: δ')) G' H' → Q v H'
def Ev (X : Cx) (δ : List Cell) (e : Expr) (Φ : Cell → List Cell → Prop) : Prop :=
  ∀ (σ : SS) (G H : Hp), Mt X.K G H σ δ → ∀ Q : VK, Post X.K (feet δ) G H σ Φ Q → wpE X e σ H Q
def PostI (K : PySem.W.Frag) (F : List Addr) (G H : Hp) (σ : SS) (Ψ : Dat → List Cell → Prop) (Q : VK) : Prop :=
  ∀ (d : Dat) (δ' : List Cell) (v : V) (G' H' : Hp), Ψ d δ' → Mt K G' H' σ δ' → Rp K G' v d → Fr F G H (feet δ') G' H' → Q v H'
/-- .. data that stay -/
def EvI (X : Cx) (δ : List Cell) (e : Expr) (Ψ : Dat → List Cell → Prop) : Prop :=
  ∀ (σ : SS) (G H : Hp), Mt X.K G H σ δ → ∀ Q : VK, PostI X.K (feet δ) G H σ Ψ Q → wpE X e σ H Q
/-- .. and no cell changes -/
def EvP (X : Cx) (δ : List Cell) (e : Expr) (d : Dat) : Prop :=
  ∀ (σ : SS) (G H : Hp), Mt X.K G H σ δ → ∀ Q : VK, (∀ (v : V) (G' H' : Hp), Rp X.K G' v d → Wd G' H' → Ext G H G' H' → Q v H') → wpE X e σ H Q
def EvT (X : Cx) (δ : List Cell) (e : Expr) (Ψ : Bool → List Cell → Prop) : Prop :=
  ∀ (σ : SS) (G H : Hp), Mt X.K G H σ δ → ∀ Q : Bool → Hp → Prop, (∀ (b : Bool) (δ' : List Cell) (G' H' : Hp), Ψ b δ' → Mt X.K G' H' σ δ' → Fr (feet δ) G H (feet δ') G' H' → Q b H') → wpT X e σ H Q
def EvW (X : Cx) (δ : List Cell) (e : Expr) (Ψ : Bool → List Cell → Prop) : Prop :=
  ∀ (σ : SS) (G H : Hp), Mt X.K G H σ δ → ∀ Q : Bool → Hp → Prop, (∀ (b : Bool) (δ' : List Cell) (G' H' : Hp), Ψ b δ' → Mt X.K G' H' σ δ' → Fr (feet δ) G H (feet δ') G' H' → Q b H') → wpW X e σ H Q
def EvTP (X : Cx) (δ : List Cell) (e : Expr) (b : Bool) : Prop :=
  ∀ (σ : SS) (G H : Hp), Mt X.K G H σ δ → ∀ Q : Bool → Hp → Prop, (∀ (G' H' : Hp), Wd G' H' → Ext G H G' H' → Q b H') → wpT X e σ H Q
def EvWP (X : Cx) (δ : List Cell) (e : Expr) (b : Bool) : Prop :=
  ∀ (σ : SS) (G H : Hp), Mt X.K G H σ δ → ∀ Q : Bool → Hp → Prop, (∀ (G' H' : Hp), Wd G' H' → Ext G H G' H' → Q b H') → wpW X e σ H Q
def EvA (X : Cx) (δ : List Cell) (es : List Expr) (Ψ : List Dat → List Cell → Prop) : Prop :=
  ∀ (σ : SS) (G H : Hp), Mt X.K G H σ δ → ∀ Q : List V → Hp → Prop, (∀ (ds : List Dat) (δ' : List Cell) (vs : List V) (G' H' : Hp), Ψ ds δ' → Mt X.K G' H' σ δ' → RpA X.K G' vs ds → Fr (feet δ) G H (feet δ') G' H' → Q vs H') → wpA X es σ H Q
def EvAP (X : Cx) (δ : List Cell) (es : List Expr) (ds : List Dat) : Prop :=
  ∀ (σ : SS) (G H : Hp), Mt X.K G H σ δ → ∀ Q : List V → Hp → Prop, (∀ (vs : List V) (G' H' : Hp), RpA X.K G' vs ds → Wd G' H' → Ext G H G' H' → Q vs H') → wpA X es σ H Q
inductive Out where
  | nx (δ : List Cell)
  | bk (δ : List Cell)
  | ct (δ : List Cell)
  | rt (r : Cell) (δ : List Cell)
structure RunPost (K : PySem.W.Frag) (F : List Addr) (G H : Hp) (Φ : Out → Prop) (D : Ends) : Prop where
  nx : ∀ (δ' : List Cell) (σ' : SS) (G' H' : Hp), Φ (.nx δ') → Mt K G' H' σ' δ' → Fr F G H (feet δ') G' H' → D.nx σ' H'
  bk : ∀ (δ' : List Cell) (σ' : SS) (G' H' : Hp), Φ (.bk δ') → Mt K G' H' σ' δ' → Fr F G H (feet δ') G' H' → D.bk σ' H'
  ct : ∀ (δ' : List Cell) (σ' : SS) (G' H' : Hp), Φ (.ct δ') → Mt K G' H' σ' δ' → Fr F G H (feet δ') G' H' → D.ct σ' H'
  rt : ∀ (r : Cell) (δ' : List Cell) (v : V) (σ' : SS) (G' H' : Hp), Φ (.rt r δ') → Mt K G' H' (some v :: σ') (r :: δ') → Fr F G H (feet (r :: δ')) G' H' → D.rt v H'
def RunS (X : Cx) (δ : List Cell) (st : Stmt) (Φ : Out → Prop) : Prop := ∀ (σ : SS) (G H : Hp), Mt X.K G H σ δ → ∀ D : Ends, RunPost X.K (feet δ) G H Φ D → wpS X st σ H D
def Run (X : Cx) (δ : List Cell) (ss : List Stmt) (Φ : Out → Prop) : Prop := ∀ (σ : SS) (G H : Hp), Mt X.K G H σ δ → ∀ D : Ends, RunPost X.K (feet δ) G H Φ D → wpSs X ss σ H D
/-- a target is given data -/
def AsD (X : Cx) (δ : List Cell) (tg : Expr) (d : Dat) (δ' : List Cell) : Prop :=
  (∀ b ∈ feet δ', b ∈ feet δ) ∧ ∀ (σ : SS) (G H : Hp) (v : V), Mt X.K G H σ δ → Rp X.K G v d → ∀ Q : SS → Hp → Prop, (∀ σ', Mt X.K G H σ' δ' → Q σ' H) → wpG X tg v σ H Q
/-- two values, by data -/
def Op2 (X : Cx) (f : Value → Value → Sem Value) (d1 d2 d : Dat) : Prop :=
  ∀ (G H : Hp) (x y : V) (Q : VK), Wd G H → Rp X.K G x d1 → Rp X.K G y d2 → (∀ (z : V) (G' H' : Hp), Rp X.K G' z d → Wd G' H' → Ext G H G' H' → Q z H') → wp2 X f x y H Q
def Cmp2 (X : Cx) (f : Value → Value → Sem Value) (d1 d2 : Dat) (b : Bool) : Prop :=
  ∀ (G H : Hp) (x y : V) (Q : VK), Wd G H → Rp X.K G x d1 → Rp X.K G y d2 → Q (.bl b) H → wp2 X f x y H Q

section
variable {X : Cx} {δ δ' : List Cell} {e a b : Expr} {es : List Expr} {d d1 d2 : Dat} {Ψ : Dat → List Cell → Prop} {Φ : Cell → List Cell → Prop} {pos : Pos}
theorem EvI.ev (h : EvI X δ e Ψ) (k : ∀ d δ', Ψ d δ' → Φ (.im d) δ') : Ev X δ e Φ := fun σ G H m Q q =>
  h σ G H m Q fun d δ' v G' H' hd m' r f => q (.im d) δ' v G' H' (k d δ' hd) (m'.im r) (by rw [feet_im]; exact f)
theorem Ev.toI (h : Ev X δ e fun r δ' => ∃ d, r = .im d ∧ Ψ d δ') : EvI X δ e Ψ := fun σ G H m Q q =>
  h σ G H m Q fun r δ' v G' H' hr m' f => by
    obtain ⟨d, rfl, hd⟩ := hr
    obtain ⟨x, e, r⟩ := m'.rp
    cases e
    exact q d δ' v G' H' hd m'.tail r (by rw [feet_im] at f; exact f)
theorem Ev.mono {Φ' : Cell → List Cell → Prop} (h : Ev X δ e Φ') (k : ∀ r δ', Φ' r δ' → Φ r δ') : Ev X δ e Φ := fun σ G H m Q q => h σ G H m Q fun r δ' v G' H' hr => q r δ' v G' H' (k r δ' hr)
theorem EvI.mono {Ψ' : Dat → List Cell → Prop} (h : EvI X δ e Ψ') (k : ∀ d δ', Ψ' d δ' → Ψ d δ') : EvI X δ e Ψ := fun σ G H m Q q => h σ G H m Q fun d δ' v G' H' hr => q d δ' v G' H' (k d δ' hr)
theorem EvP.cast (h : EvP X δ e d) {d' : Dat} (q : d = d') : EvP X δ e d' := q ▸ h
theorem EvP.i (h : EvP X δ e d) (k : Ψ d δ) : EvI X δ e Ψ := fun σ G H m Q q => h σ G H m Q fun v G' H' r w ex => q d δ v G' H' k (m.ext ex w) r (Ext.up ex _)
theorem EvP.ev (h : EvP X δ e d) (k : Φ (.im d) δ) : Ev X δ e Φ := EvI.ev (Ψ := fun d' δ' => d' = d ∧ δ' = δ) (h.i ⟨rfl, rfl⟩) fun d' δ' q => by rw [q.1, q.2]; exact k
theorem EvAP.ea {ds : List Dat} {Ψ : List Dat → List Cell → Prop} (h : EvAP X δ es ds) (k : Ψ ds δ) : EvA X δ es Ψ := fun σ G H m Q q => h σ G H m Q fun v G' H' r w ex => q ds δ v G' H' k (m.ext ex w) r (Ext.up ex _)
theorem oneP {Q : V → Hp → Prop} {σ : SS} {G H : Hp} (m : Mt X.K G H σ δ) (ha : EvP X δ a d1) (q : ∀ (x : V) (G2 H2 : Hp), Mt X.K G2 H2 σ δ → Rp X.K G2 x d1 → Ext G H G2 H2 → Q x H2) : wpE X a σ H Q :=
  ha σ G H m Q fun v G' H' r w ex => q v G' H' (m.ext ex w) r ex
theorem twoP {Q : V → V → Hp → Prop} {σ : SS} {G H : Hp} (m : Mt X.K G H σ δ) (ha : EvP X δ a d1) (hb : EvP X δ b d2)
    (q : ∀ (x y : V) (G2 H2 : Hp), Mt X.K G2 H2 σ δ → Rp X.K G2 x d1 → Rp X.K G2 y d2 → Ext G H G2 H2 → Q x y H2) : wpE X a σ H fun x H1 => wpE X b σ H1 fun y H2 => Q x y H2 :=
  oneP m ha fun x G1 H1 m1 r1 f1 => oneP m1 hb fun y G2 H2 m2 r2 f2 => q x y G2 H2 m2 (r1.mono f2.gg) r2 (f1.trans f2)
/-- a rule of the layer, read over data: nothing but new objects -/
theorem EvP.of (h : ∀ (σ : SS) (G H : Hp), Mt X.K G H σ δ → ∀ Q : VK, (∀ (v : V) (G' H' : Hp), Rp X.K G' v d → Wd G' H' → Ext G H G' H' → Q v H') → wpE X e σ H Q) : EvP X δ e d := h
/-! names and constants -/
theorem EvP.var {i : Nat} {x : Str} (h : δ[i]? = some (.im d)) (hN : X.N[i]? = some x := by rfl) (hv : Vis X.env.scope x := by first | exact Or.inl rfl | exact Or.inr (Or.inl rfl) | exact Or.inr (Or.inr rfl))
    (hd : (x == ("__debug__" : Str)) = false := by decide) (hcd : (x == ("__classdict__" : Str)) = false := by decide) : EvP X δ (.Name x pos) d := .of fun σ G H m Q q => by
  obtain ⟨v, ev, y, ey, r⟩ := m.get h
  refine PE.w (pe_var hN hv hd hcd) ⟨y, ?_, q y G H r m.wd (Fr.refl _ _ _)⟩
  rw [ev, ey]
theorem EvP.int {i : Int} {j : Nat} : EvP X δ (.Constant (.int i) j pos) (.int i) := .of fun σ G H m Q q => PE.w pe_int (q _ G H (.int i) m.wd (Fr.refl _ _ _))
theorem EvP.str {x : Str} {j : Nat} : EvP X δ (.Constant (.str x) j pos) (.str x) := .of fun σ G H m Q q => PE.w pe_str (q _ G H (.str x) m.wd (Fr.refl _ _ _))
theorem EvP.bl {c : Bool} {j : Nat} : EvP X δ (.Constant (.bool c) j pos) (.bool c) := .of fun σ G H m Q q => PE.w pe_bl (q _ G H (.bl c) m.wd (Fr.refl _ _ _))
theorem EvP.non {j : Nat} : EvP X δ (.Constant .none j pos) .none := .of fun σ G H m Q q => PE.w pe_non (q _ G H .non m.wd (Fr.refl _ _ _))
theorem EvP.globInt {x : Str} {i : Int} (hm : ∃ t, X.mg x = some (.int i t)) (hg : Gl X x := by rfl) (hd : (x == ("__debug__" : Str)) = false := by decide) : EvP X δ (.Name x pos) (.int i) := .of fun σ G H m Q q => by
  obtain ⟨t, hm⟩ := hm
  exact PE.w (pe_glob (v := .int i) hg hm ⟨t, rfl⟩ hd) (q _ G H (.int i) m.wd (Fr.refl _ _ _))
theorem EvP.globStr {x z : Str} (hm : ∃ t, X.mg x = some (.str z t)) (hg : Gl X x := by rfl) (hd : (x == ("__debug__" : Str)) = false := by decide) : EvP X δ (.Name x pos) (.str z) := .of fun σ G H m Q q => by
  obtain ⟨t, hm⟩ := hm
  exact PE.w (pe_glob (v := .str z) hg hm ⟨t, rfl⟩ hd) (q _ G H (.str z) m.wd (Fr.refl _ _ _))
/-! two operands -/
theorem two {Q : V → V → Hp → Prop} {σ : SS} {G H : Hp} (m : Mt X.K G H σ δ) {Χ : Dat → Dat → List Cell → Prop} (ha : EvI X δ a fun d1 δ1 => EvI X δ1 b fun d2 δ2 => Χ d1 d2 δ2)
    (q : ∀ (d1 d2 : Dat) (δ2 : List Cell) (x y : V) (G2 H2 : Hp), Χ d1 d2 δ2 → Mt X.K G2 H2 σ δ2 → Rp X.K G2 x d1 → Rp X.K G2 y d2 → Fr (feet δ) G H (feet δ2) G2 H2 → Q x y H2) :
    wpE X a σ H fun x H1 => wpE X b σ H1 fun y H2 => Q x y H2 :=
  ha σ G H m _ fun d1 δ1 x G1 H1 hb m1 r1 f1 => hb σ G1 H1 m1 _ fun d2 δ2 y G2 H2 hc m2 r2 f2 => q d1 d2 δ2 x y G2 H2 hc m2 (r1.mono f2.gg) r2 (f1.trans f2)
theorem EvI.bin {op : Operator} (h : EvI X δ a fun d1 δ1 => EvI X δ1 b fun d2 δ2 => ∃ d, Op2 X (binaryOp op) d1 d2 d ∧ Ψ d δ2) : EvI X δ (.BinOp a op b pos) Ψ := fun σ G H m Q q => by
  refine PE.w (pe_op opW peW peW) (two m h fun d1 d2 δ2 x y G2 H2 hc m2 r1 r2 f2 => ?_)
  obtain ⟨d, ho, hd⟩ := hc
  exact ho G2 H2 x y Q m2.wd r1 r2 fun z G' H' rz w ex => q d δ2 z G' H' hd (m2.ext ex w) rz (f2.trans (Ext.up ex _))
theorem EvP.bin {op : Operator} (ha : EvP X δ a d1) (hb : EvP X δ b d2) (ho : Op2 X (binaryOp op) d1 d2 d) : EvP X δ (.BinOp a op b pos) d := fun σ G H m Q q =>
  PE.w (pe_op opW peW peW) (twoP m ha hb fun x y G2 H2 m2 r1 r2 f => ho G2 H2 x y Q m2.wd r1 r2 fun z G' H' rz w ex => q z G' H' rz w (f.trans ex))
theorem EvI.cmp {op : CmpOp} (h : EvI X δ a fun d1 δ1 => EvI X δ1 b fun d2 δ2 => ∃ k, Cmp2 X (compareOp op) d1 d2 k ∧ Ψ (.bool k) δ2) (hm : behindInMarks op b = false := by first | exact nomark _ | rfl) : EvI X δ (.Compare a [op] [b] pos) Ψ := fun σ G H m Q q => by
  refine PE.w (pe_cmpR opW peW peW hm) (two m h fun d1 d2 δ2 x y G2 H2 hc m2 r1 r2 f2 => ?_)
  obtain ⟨k, ho, hd⟩ := hc
  exact ho G2 H2 x y Q m2.wd r1 r2 (q (.bool k) δ2 (.bl k) G2 H2 hd m2 (.bl k) f2)
theorem EvP.cmp {op : CmpOp} {k : Bool} (ha : EvP X δ a d1) (hb : EvP X δ b d2) (ho : Cmp2 X (compareOp op) d1 d2 k) (hm : behindInMarks op b = false := by first | exact nomark _ | rfl) : EvP X δ (.Compare a [op] [b] pos) (.bool k) := fun σ G H m Q q =>
  PE.w (pe_cmpR opW peW peW hm) (twoP m ha hb fun x y G2 H2 m2 r1 r2 f => ho G2 H2 x y Q m2.wd r1 r2 (q _ G2 H2 (.bl k) m2.wd f))
theorem EvT.cmp {op : CmpOp} {Ψ : Bool → List Cell → Prop} (h : EvI X δ a fun d1 δ1 => EvI X δ1 b fun d2 δ2 => ∃ k, Cmp2 X (compareOp op) d1 d2 k ∧ Ψ k δ2) (hm : behindInMarks op b = false := by first | exact nomark _ | rfl) : EvT X δ (.Compare a [op] [b] pos) Ψ := fun σ G H m Q q => by
  refine PT.w (pt_cmpR opW peW peW hm) (two m h fun d1 d2 δ2 x y G2 H2 hc m2 r1 r2 f2 => ?_)
  obtain ⟨k, ho, hd⟩ := hc
  exact ho G2 H2 x y _ m2.wd r1 r2 ⟨k, rfl, q k δ2 G2 H2 hd m2 f2⟩
theorem EvTP.cmp {op : CmpOp} {k : Bool} (ha : EvP X δ a d1) (hb : EvP X δ b d2) (ho : Cmp2 X (compareOp op) d1 d2 k) (hm : behindInMarks op b = false := by first | exact nomark _ | rfl) : EvTP X δ (.Compare a [op] [b] pos) k := fun σ G H m Q q =>
  PT.w (pt_cmpR opW peW peW hm) (twoP m ha hb fun x y G2 H2 m2 r1 r2 f => ho G2 H2 x y _ m2.wd r1 r2 ⟨k, rfl, q G2 H2 m2.wd f⟩)
/-! tests -/
theorem EvTP.t {c : Bool} {Ψ : Bool → List Cell → Prop} (h : EvTP X δ e c) (k : Ψ c δ) : EvT X δ e Ψ := fun σ G H m Q q => h σ G H m Q fun G' H' w ex => q c δ G' H' k (m.ext ex w) (Ext.up ex _)
theorem EvT.val {Ψ : Bool → List Cell → Prop} (h : EvI X δ e fun d δ' => ∃ c, d = .bool c ∧ Ψ c δ') (he : ∀ whole, isTrue e X.env whole = (do let v ← whole; standAt e.pos; holding [v] (truthy v)) := by intro _; rfl) : EvT X δ e Ψ := fun σ G H m Q q =>
  PT.w (pt_val peW he) (h σ G H m _ fun d δ' v G' H' hd m' r f => by
    obtain ⟨c, rfl, hc⟩ := hd
    cases r
    exact ⟨c, rfl, q c δ' G' H' hc m' f⟩)
theorem EvTP.val {c : Bool} (h : EvP X δ e (.bool c)) (he : ∀ whole, isTrue e X.env whole = (do let v ← whole; standAt e.pos; holding [v] (truthy v)) := by intro _; rfl) : EvTP X δ e c := fun σ G H m Q q =>
  PT.w (pt_val peW he) (oneP m h fun x G2 H2 m2 r f => by
    cases r
    exact ⟨c, rfl, q G2 H2 m2.wd f⟩)
theorem EvT.not {Ψ : Bool → List Cell → Prop} (h : EvT X δ e fun c δ' => Ψ (!c) δ') : EvT X δ (.UnaryOp .Not e pos) Ψ := fun σ G H m Q q =>
  PT.w (pt_not ptW) (h σ G H m _ fun c δ' G' H' hc m' f => q (!c) δ' G' H' hc m' f)
theorem EvTP.not {c : Bool} (h : EvTP X δ e c) : EvTP X δ (.UnaryOp .Not e pos) (!c) := fun σ G H m Q q => PT.w (pt_not ptW) (h σ G H m _ q)
theorem EvW.t {Ψ : Bool → List Cell → Prop} (h : EvW X δ e Ψ) : EvT X δ e Ψ := fun σ G H m Q q => PT.w (PW.pt pwW) (h σ G H m Q q)
theorem EvW.and1 {Ψ : Bool → List Cell → Prop} (h : EvT X δ a Ψ) : EvW X δ (.BoolOp .And [a] pos) Ψ := fun σ G H m Q q => PW.w (pw_and1 ptW) (h σ G H m Q q)
theorem EvW.or1 {Ψ : Bool → List Cell → Prop} (h : EvT X δ a Ψ) : EvW X δ (.BoolOp .Or [a] pos) Ψ := fun σ G H m Q q => PW.w (pw_or1 ptW) (h σ G H m Q q)
theorem EvW.and {rest : List Expr} {Ψ : Bool → List Cell → Prop} (h : EvT X δ a fun c δ' => if c = true then EvW X δ' (.BoolOp .And (b :: rest) pos) Ψ else Ψ false δ') : EvW X δ (.BoolOp .And (a :: b :: rest) pos) Ψ := fun σ G H m Q q =>
  PW.w (pw_and ptW pwW) (h σ G H m _ fun c δ' G' H' hc m' f => by
    cases c with
    | true =>
      rw [if_pos rfl] at hc ⊢
      exact hc σ G' H' m' Q fun b δ2 G2 H2 hb m2 f2 => q b δ2 G2 H2 hb m2 (f.trans f2)
    | false =>
      rw [if_neg Bool.false_ne_true] at hc ⊢
      exact q false δ' G' H' hc m' f)
theorem EvW.or {rest : List Expr} {Ψ : Bool → List Cell → Prop} (h : EvT X δ a fun c δ' => if c = true then Ψ true δ' else EvW X δ' (.BoolOp .Or (b :: rest) pos) Ψ) : EvW X δ (.BoolOp .Or (a :: b :: rest) pos) Ψ := fun σ G H m Q q =>
  PW.w (pw_or ptW pwW) (h σ G H m _ fun c δ' G' H' hc m' f => by
    cases c with
    | true =>
      rw [if_pos rfl] at hc ⊢
      exact q true δ' G' H' hc m' f
    | false =>
      rw [if_neg Bool.false_ne_true] at hc ⊢
      exact hc σ G' H' m' Q fun b δ2 G2 H2 hb m2 f2 => q b δ2 G2 H2 hb m2 (f.trans f2))
/-! and, or, not, if else as values -/
theorem EvI.one {op : BoolOp} (h : EvI X δ a Ψ) : EvI X δ (.BoolOp op [a] pos) Ψ := fun σ G H m Q q => PE.w (pe_one peW) (h σ G H m Q q)
theorem EvI.and {rest : List Expr} (h : EvI X δ a fun d δ' => ∃ c, d = .bool c ∧ if c = true then EvI X δ' (.BoolOp .And (b :: rest) pos) Ψ else Ψ (.bool false) δ') : EvI X δ (.BoolOp .And (a :: b :: rest) pos) Ψ := fun σ G H m Q q =>
  PE.w (pe_and peW peW) (h σ G H m _ fun d δ' v G' H' hc m' r f => by
    obtain ⟨c, rfl, hc⟩ := hc
    cases r
    refine ⟨c, rfl, ?_⟩
    cases c with
    | true =>
      rw [if_pos rfl] at hc ⊢
      exact hc σ G' H' m' Q fun d δ2 v G2 H2 hb m2 r2 f2 => q d δ2 v G2 H2 hb m2 r2 (f.trans f2)
    | false =>
      rw [if_neg Bool.false_ne_true] at hc ⊢
      exact q (.bool false) δ' _ G' H' hc m' (.bl false) f)
theorem EvI.ifExp {c : Expr} (h : EvT X δ c fun k δ' => if k = true then EvI X δ' a Ψ else EvI X δ' b Ψ) : EvI X δ (.IfExp c a b pos) Ψ := fun σ G H m Q q =>
  PE.w (pe_ifExp ptW peW peW) (h σ G H m _ fun k δ' G' H' hc m' f => by
    cases k with
    | true =>
      rw [if_pos rfl] at hc ⊢
      exact hc σ G' H' m' Q fun d δ2 v G2 H2 hb m2 r2 f2 => q d δ2 v G2 H2 hb m2 r2 (f.trans f2)
    | false =>
      rw [if_neg Bool.false_ne_true] at hc ⊢
      exact hc σ G' H' m' Q fun d δ2 v G2 H2 hb m2 r2 f2 => q d δ2 v G2 H2 hb m2 r2 (f.trans f2))
/-! .. pure -/
theorem EvWP.t {c : Bool} (h : EvWP X δ e c) : EvTP X δ e c := fun σ G H m Q q => PT.w (PW.pt pwW) (h σ G H m Q q)
theorem EvWP.and1 {c : Bool} (h : EvTP X δ a c) : EvWP X δ (.BoolOp .And [a] pos) c := fun σ G H m Q q => PW.w (pw_and1 ptW) (h σ G H m Q q)
theorem EvWP.or1 {c : Bool} (h : EvTP X δ a c) : EvWP X δ (.BoolOp .Or [a] pos) c := fun σ G H m Q q => PW.w (pw_or1 ptW) (h σ G H m Q q)
theorem EvWP.and {rest : List Expr} {c k : Bool} (h : EvTP X δ a c) (t : c = true → EvWP X δ (.BoolOp .And (b :: rest) pos) k) : EvWP X δ (.BoolOp .And (a :: b :: rest) pos) (c && k) := fun σ G H m Q q =>
  PW.w (pw_and ptW pwW) (h σ G H m _ fun G' H' w ex => by
    cases c with
    | true =>
      rw [if_pos rfl]
      exact t rfl σ G' H' (m.ext ex w) Q fun G2 H2 w2 ex2 => q G2 H2 w2 (ex.trans ex2)
    | false =>
      rw [if_neg Bool.false_ne_true]
      exact q G' H' w ex)
theorem EvWP.or {rest : List Expr} {c k : Bool} (h : EvTP X δ a c) (t : c = false → EvWP X δ (.BoolOp .Or (b :: rest) pos) k) : EvWP X δ (.BoolOp .Or (a :: b :: rest) pos) (c || k) := fun σ G H m Q q =>
  PW.w (pw_or ptW pwW) (h σ G H m _ fun G' H' w ex => by
    cases c with
    | true =>
      rw [if_pos rfl]
      exact q G' H' w ex
    | false =>
      rw [if_neg Bool.false_ne_true]
      exact t rfl σ G' H' (m.ext ex w) Q fun G2 H2 w2 ex2 => q G2 H2 w2 (ex.trans ex2))
theorem EvP.one {op : BoolOp} (h : EvP X δ a d) : EvP X δ (.BoolOp op [a] pos) d := fun σ G H m Q q => PE.w (pe_one peW) (h σ G H m Q q)
theorem EvP.and {rest : List Expr} {c k : Bool} (h : EvP X δ a (.bool c)) (t : c = true → EvP X δ (.BoolOp .And (b :: rest) pos) (.bool k)) : EvP X δ (.BoolOp .And (a :: b :: rest) pos) (.bool (c && k)) := fun σ G H m Q q =>
  PE.w (pe_and peW peW) (h σ G H m _ fun v G' H' r w ex => by
    cases r
    refine ⟨c, rfl, ?_⟩
    cases c with
    | true =>
      rw [if_pos rfl]
      exact t rfl σ G' H' (m.ext ex w) Q fun v2 G2 H2 r2 w2 ex2 => q v2 G2 H2 r2 w2 (ex.trans ex2)
    | false =>
      rw [if_neg Bool.false_ne_true]
      exact q (.bl false) G' H' (.bl false) w ex)
theorem EvP.ifExp {c : Expr} {k : Bool} (h : EvTP X δ c k) (ha : k = true → EvP X δ a d) (hb : k = false → EvP X δ b d) : EvP X δ (.IfExp c a b pos) d := fun σ G H m Q q =>
  PE.w (pe_ifExp ptW peW peW) (h σ G H m _ fun G' H' w ex => by
    cases k with
    | true =>
      rw [if_pos rfl]
      exact ha rfl σ G' H' (m.ext ex w) Q fun v2 G2 H2 r2 w2 ex2 => q v2 G2 H2 r2 w2 (ex.trans ex2)
    | false =>
      rw [if_neg Bool.false_ne_true]
      exact hb rfl σ G' H' (m.ext ex w) Q fun v2 G2 H2 r2 w2 ex2 => q v2 G2 H2 r2 w2 (ex.trans ex2))
/-! arguments, displays -/
theorem EvA.nil {Ψ : List Dat → List Cell → Prop} (h : Ψ [] δ) : EvA X δ [] Ψ := fun σ G H m Q q => PA.w pa_nil (q [] δ [] G H h m .nil (Fr.refl _ _ _))
theorem EvA.cons {Ψ : List Dat → List Cell → Prop} (h : EvI X δ a fun d δ1 => EvA X δ1 es fun ds δ2 => Ψ (d :: ds) δ2) (hs : starEach (a :: es) X.env = (false, eval a X.env) :: starEach es X.env := by rfl) : EvA X δ (a :: es) Ψ := fun σ G H m Q q =>
  PA.w (pa_cons peW paW hs) (h σ G H m _ fun d δ1 v G1 H1 h1 m1 r1 f1 => h1 σ G1 H1 m1 _ fun ds δ2 vs G2 H2 h2 m2 r2 f2 => q (d :: ds) δ2 (v :: vs) G2 H2 h2 m2 (.cons (r1.mono f2.gg) r2) (f1.trans f2))
theorem EvAP.nil : EvAP X δ [] [] := fun σ G H m Q q => PA.w pa_nil (q [] G H .nil m.wd (Fr.refl _ _ _))
theorem EvAP.cons {ds : List Dat} (h : EvP X δ a d) (t : EvAP X δ es ds) (hs : starEach (a :: es) X.env = (false, eval a X.env) :: starEach es X.env := by rfl) : EvAP X δ (a :: es) (d :: ds) := fun σ G H m Q q =>
  PA.w (pa_cons peW paW hs) (oneP m h fun v G1 H1 m1 r1 f1 => t σ G1 H1 m1 _ fun vs G2 H2 r2 w2 f2 => q (v :: vs) G2 H2 (.cons (r1.mono f2.gg) r2) w2 (f1.trans f2))
theorem EvI.tup {x1 : Nat} (h : EvA X δ es fun ds δ' => ds.length ≤ sizeLine ∧ Ψ (.tuple ds) δ') : EvI X δ (.Tuple es x1 pos) Ψ := fun σ G H m Q q =>
  PE.w (pe_tup paW) (h σ G H m _ fun ds δ' vs G' H' hd m' r f => ⟨by rw [r.length]; exact hd.1, fun p np => by
    have ex := Ext.new (o := .tup vs) m'.wd np
    exact q (.tuple ds) δ' (.ref p) _ _ hd.2 (m'.ext ex (m'.wd.new np)) (.tup upd_same (r.mono ex.gg)) (f.trans (Ext.up ex _))⟩)
theorem EvP.tup {x1 : Nat} {ds : List Dat} (h : EvAP X δ es ds) (hl : ds.length ≤ 1000 := by first | exact Nat.zero_le _ | decide) : EvP X δ (.Tuple es x1 pos) (.tuple ds) := fun σ G H m Q q =>
  PE.w (pe_tup paW) (h σ G H m _ fun vs G' H' r w f => ⟨by rw [r.length]; exact Nat.le_of_lt (small1000 hl), fun p np => by
    have ex := Ext.new (o := .tup vs) w np
    exact q (.ref p) _ _ (.tup upd_same (r.mono ex.gg)) (w.new np) (f.trans ex)⟩)
theorem EvI.lst (h : EvA X δ es fun ds δ' => ds.length ≤ sizeLine ∧ Ψ (.list ds) δ') : EvI X δ (.List es pos) Ψ := fun σ G H m Q q =>
  PE.w (pe_lst paW) (h σ G H m _ fun ds δ' vs G' H' hd m' r f => ⟨by rw [r.length]; exact hd.1, fun p np => by
    have ex := Ext.new (o := .lst vs) m'.wd np
    exact q (.list ds) δ' (.ref p) _ _ hd.2 (m'.ext ex (m'.wd.new np)) (.lst upd_same (r.mono ex.gg)) (f.trans (Ext.up ex _))⟩)
theorem EvP.lst {ds : List Dat} (h : EvAP X δ es ds) (hl : ds.length ≤ 1000 := by first | exact Nat.zero_le _ | decide) : EvP X δ (.List es pos) (.list ds) := fun σ G H m Q q =>
  PE.w (pe_lst paW) (h σ G H m _ fun vs G' H' r w f => ⟨by rw [r.length]; exact Nat.le_of_lt (small1000 hl), fun p np => by
    have ex := Ext.new (o := .lst vs) w np
    exact q (.ref p) _ _ (.lst upd_same (r.mono ex.gg)) (w.new np) (f.trans ex)⟩)
end
end K94
end

/-! text KC -/
section
set_option Elab.async false
set_option linter.all false
set_option maxRecDepth 100000
set_option maxHeartbeats 4000000
set_option autoImplicit true
/-! operators and calls over data -/
namespace K94
open PySem PySem.Spec PyProof.Rows L2

/-- what every context here keeps -/
structure Gx (X : Cx) : Prop where
  calm : X.calm = true
  hu : X.A.units + 200 < cLine
  gd : X.A.guards = some []
  sm : ∃ o, X.K.lookup sysModules = some o ∧ o.cls = .type "dict"

/-! ### data off the heap -/
theorem keyReads {h : Heap} {k : L2.Key} {u : Value} (r : RelV (kV k) u) : Reads h u (kD k).py [] := by
  cases k with
  | inl i =>
    obtain ⟨t, rfl⟩ := r
    exact .int i t
  | inr x =>
    obtain ⟨t, rfl⟩ := r
    exact .str x t
theorem keysReads {h : Heap} : ∀ {ks : List L2.Key} {us : List Value}, Vals (ks.map kV) us → ReadsAll h us (pyAll (ks.map kD)) []
  | [], _, .nil => .nil
  | k :: ks, _, .cons r t => by
    have q : ReadsAll h (_ :: _) ((kD k).py :: pyAll (ks.map kD)) ([] ++ []) := .cons (keyReads r) (keysReads t)
    exact q
theorem pairsKeys {P : Program} {w : World} : ∀ {es : List DictEntry} {vs : List (L2.Key × Value)}, Pairs (mixKind P w) es vs → Vals ((vs.map (·.1)).map kV) (es.map (·.key)) ∧ es.map (·.val) = vs.map (·.2)
  | _, _, .nil => ⟨.nil, rfl⟩
  | _, _, .cons hk hv t => by
    obtain ⟨h1, h2⟩ := pairsKeys t
    exact ⟨.cons (relV_key hk) h1, by rw [List.map_cons, List.map_cons, hv, h2]⟩
section
variable {X : Cx} {pins : List (Addr × Obj)} {σ : SS} {G H : Hp} {s : Shared}
theorem RpK.keys {K : PySem.W.Frag} : ∀ {kvs : List (L2.Key × V)} {ds : List (Dat × Dat)}, RpK K G kvs ds → ds.map (·.1) = (kvs.map (·.1)).map kD
  | _, _, .nil => rfl
  | _, _, .cons _ t => by rw [List.map_cons, RpK.keys t]; rfl
theorem RpT.keys {K : PySem.W.Frag} : ∀ {kvs : List (List L2.Key × V)} {ds : List (Dat × Dat)}, RpT K G kvs ds → ds.map (·.1) = (kvs.map (·.1)).map fun k => Dat.tuple (k.map kD)
  | _, _, .nil => rfl
  | _, _, .cons _ t => by rw [List.map_cons, RpT.keys t]; rfl
theorem tupKeys (I : Inv X pins σ H s) : ∀ {kvs : List (List L2.Key × V)} {xs : List (List L2.Key × Addr × Value)}, KT H kvs xs → ReadsAll s.heap (xs.map fun x => Value.ref x.2.1) (pyAll ((kvs.map (·.1)).map fun k => Dat.tuple (k.map kD))) []
  | _, _, .nil => .nil
  | _, _, .cons r t => by
    obtain ⟨h1, h2, _⟩ := r
    obtain ⟨its, rv, ⟨o, e, c, n, d⟩, _⟩ := I.tuple (SqT.of h2)
    have q := ReadsAll.cons (.tuple e c d (by simpa using keysReads rv)) (tupKeys I t)
    exact q
theorem notSys (sm : ∃ o, X.K.lookup sysModules = some o ∧ o.cls = .type "dict") (I : Inv X pins σ H s) {a : Addr} {xs : List V} (h : SqL X.K H a xs) : a ≠ sysModules := fun e => by
  obtain ⟨o, hk, hc⟩ := sm
  obtain ⟨its, _, ⟨o', n, e', c', _, _⟩, _⟩ := I.list h
  have e2 := I.kIn _ _ hk
  rw [e] at e'
  rw [e2] at e'
  cases e'
  rw [hc] at c'
  exact absurd (Value.type.inj c') (by decide)
mutual
theorem Rp.reads (sm : ∃ o, X.K.lookup sysModules = some o ∧ o.cls = .type "dict") (I : Inv X pins σ H s) (w : Wd G H) : ∀ {v : V} {d : Dat}, Rp X.K G v d → ∀ {u : Value}, RelV v u → ∃ as, Reads s.heap u d.py as ∧ sysModules ∉ as
  | _, _, .non, u, r => ⟨[], by cases r; exact .none, by simp⟩
  | _, _, .bl b, u, r => ⟨[], by cases r; exact .bool b, by simp⟩
  | _, _, .int i, u, r => ⟨[], by obtain ⟨t, rfl⟩ := r; exact .int i t, by simp⟩
  | _, _, .str x, u, r => ⟨[], by obtain ⟨t, rfl⟩ := r; exact .str x t, by simp⟩
  | _, _, .lst h t, u, r => by
    cases r
    obtain ⟨its, rv, ⟨o, n, e, c, _, d⟩, _⟩ := I.list (SqL.of (w.lstH h))
    obtain ⟨as, q, z⟩ := RpA.reads sm I w t rv
    refine ⟨_, .list e c d (by simpa using q), fun hm => ?_⟩
    rcases List.mem_cons.mp hm with hm | hm
    · exact notSys sm I (SqL.of (w.lstH h)) hm.symm
    · exact z hm
  | _, _, .tup h t, u, r => by
    cases r
    obtain ⟨its, rv, ⟨o, e, c, n, d⟩, _⟩ := I.tuple (SqT.of (w.tupH h))
    obtain ⟨as, q, z⟩ := RpA.reads sm I w t rv
    exact ⟨_, .tuple e c d (by simpa using q), z⟩
  | _, _, .ftup h _ t, u, r => by
    cases r
    obtain ⟨its, rv, ⟨o, e, c, n, d⟩, _⟩ := I.tuple (.inl (w.rd2 (.inr ⟨_, h⟩)))
    obtain ⟨as, q, z⟩ := RpA.reads sm I w t rv
    exact ⟨_, .tuple e c d (by simpa using q), z⟩
  | _, _, @Rp.dk _ _ a kvs ds h t, u, r => by
    cases r
    obtain ⟨_, na, vs, rv, o, es, ep, e, c, d, _, p, _⟩ := dk_rd I.hok (w.rd h)
    obtain ⟨p1, p2⟩ := pairsKeys p
    obtain ⟨bs, q, z⟩ := RpK.reads sm I w t rv
    have k1 : ReadsAll s.heap (es.toList.map (·.key)) ((pyPairs ds).map (·.1)) [] := by
      rw [pyPairs_fst]
      rw [t.keys, rv.keys]
      exact keysReads p1
    rw [← p2, ← pyPairs_snd] at q
    refine ⟨_, .dict e c.1 d k1 q, fun hm => ?_⟩
    have hm' : sysModules = a ∨ sysModules ∈ bs := by simpa using hm
    rcases hm' with hm | hm
    · exact absurd (beq_iff_eq.mpr hm.symm) (by rw [na]; exact Bool.false_ne_true)
    · exact z hm
  | _, _, @Rp.dt _ _ a kvs ds h _ t, u, r => by
    cases r
    obtain ⟨_, na, xs, rv, o, es, ep, e, c, d, he, _, _⟩ := dt_rd I.hok (w.rd h)
    obtain ⟨bs, q, z⟩ := RpT.reads sm I w t rv
    have k1 : ReadsAll s.heap (es.toList.map (·.key)) ((pyPairs ds).map (·.1)) [] := by
      rw [pyPairs_fst]
      rw [t.keys, he, List.map_map]
      exact tupKeys I rv
    have k2 : ReadsAll s.heap (es.toList.map (·.val)) ((pyPairs ds).map (·.2)) bs := by
      rw [pyPairs_snd]
      rw [he, List.map_map]
      exact q
    refine ⟨_, .dict e c.1 d k1 k2, fun hm => ?_⟩
    have hm' : sysModules = a ∨ sysModules ∈ bs := by simpa using hm
    rcases hm' with hm | hm
    · exact absurd (beq_iff_eq.mpr hm.symm) (by rw [na]; exact Bool.false_ne_true)
    · exact z hm
theorem RpA.reads (sm : ∃ o, X.K.lookup sysModules = some o ∧ o.cls = .type "dict") (I : Inv X pins σ H s) (w : Wd G H) : ∀ {vs : List V} {ds : List Dat}, RpA X.K G vs ds → ∀ {us : List Value}, Vals vs us → ∃ as, ReadsAll s.heap us (pyAll ds) as ∧ sysModules ∉ as
  | _, _, .nil, us, r => by
    cases r
    exact ⟨[], .nil, by simp⟩
  | _, _, .cons h t, us, r => by
    cases r with
    | cons r1 r2 =>
      obtain ⟨as, q1, z1⟩ := Rp.reads sm I w h r1
      obtain ⟨bs, q2, z2⟩ := RpA.reads sm I w t r2
      exact ⟨_, .cons q1 q2, fun hm => (List.mem_append.mp hm).elim z1 z2⟩
theorem RpK.reads (sm : ∃ o, X.K.lookup sysModules = some o ∧ o.cls = .type "dict") (I : Inv X pins σ H s) (w : Wd G H) : ∀ {kvs : List (L2.Key × V)} {ds : List (Dat × Dat)}, RpK X.K G kvs ds → ∀ {vs : List (L2.Key × Value)}, KV kvs vs → ∃ as, ReadsAll s.heap (vs.map (·.2)) (pyAll (ds.map (·.2))) as ∧ sysModules ∉ as
  | _, _, .nil, us, r => by
    cases r
    exact ⟨[], .nil, by simp⟩
  | _, _, .cons h t, us, r => by
    cases r with
    | cons r1 r2 =>
      obtain ⟨as, q1, z1⟩ := Rp.reads sm I w h r1.2
      obtain ⟨bs, q2, z2⟩ := RpK.reads sm I w t r2
      exact ⟨_, .cons q1 q2, fun hm => (List.mem_append.mp hm).elim z1 z2⟩
theorem RpT.reads (sm : ∃ o, X.K.lookup sysModules = some o ∧ o.cls = .type "dict") (I : Inv X pins σ H s) (w : Wd G H) : ∀ {kvs : List (List L2.Key × V)} {ds : List (Dat × Dat)}, RpT X.K G kvs ds → ∀ {xs : List (List L2.Key × Addr × Value)}, KT H kvs xs → ∃ as, ReadsAll s.heap (xs.map fun x => x.2.2) (pyAll (ds.map (·.2))) as ∧ sysModules ∉ as
  | _, _, .nil, us, r => by
    cases r
    exact ⟨[], .nil, by simp⟩
  | _, _, .cons h t, us, r => by
    cases r with
    | cons r1 r2 =>
      obtain ⟨as, q1, z1⟩ := Rp.reads sm I w h r1.2.2
      obtain ⟨bs, q2, z2⟩ := RpT.reads sm I w t r2
      exact ⟨_, .cons q1 q2, fun hm => (List.mem_append.mp hm).elim z1 z2⟩
end
end
end K94
end

/-! text KD -/
section
set_option Elab.async false
set_option linter.all false
set_option maxRecDepth 100000
set_option maxHeartbeats 4000000
set_option autoImplicit true
/-! rules of operators over data -/
namespace K94
open PySem PySem.Spec PyProof.Rows L2

/-- a text's letters, a tuple of texts, a list of texts -/
abbrev dS (ks : List Str) : List Dat := ks.map Dat.str
abbrev tS (ks : List Str) : Dat := .tuple (dS ks)
abbrev lS (ks : List Str) : Dat := .list (dS ks)

section
variable {X : Cx}
theorem Op2.ofQ {f : Value → Value → Sem Value} {d1 d2 d : Dat} (h : ∀ (G H : Hp) (x y : V) (Q : VK), Wd G H → Rp X.K G x d1 → Rp X.K G y d2 → (∀ z, Rp X.K G z d → Q z H) → wp2 X f x y H Q) : Op2 X f d1 d2 d := fun G H x y Q w rx ry q => h G H x y Q w rx ry fun z rz => q z G H rz w (Fr.refl _ _ _)
theorem Op2.add {i j : Int} : Op2 X (binaryOp .Add) (.int i) (.int j) (.int (i + j)) := .ofQ fun G H x y Q w rx ry q => by
  cases rx; cases ry
  exact OpR.w op_add ⟨i, j, rfl, rfl, q _ (.int _)⟩
theorem Op2.sub {i j : Int} : Op2 X (binaryOp .Sub) (.int i) (.int j) (.int (i - j)) := .ofQ fun G H x y Q w rx ry q => by
  cases rx; cases ry
  exact OpR.w op_sub ⟨i, j, rfl, rfl, q _ (.int _)⟩
theorem Op2.mul {i j : Int} (h : CMul i j) : Op2 X (binaryOp .Mult) (.int i) (.int j) (.int (i * j)) := .ofQ fun G H x y Q w rx ry q => by
  cases rx; cases ry
  exact OpR.w op_mul ⟨i, j, rfl, rfl, h, q _ (.int _)⟩
theorem Op2.fdiv {i j : Int} (h : CDiv i j) : Op2 X (binaryOp .FloorDiv) (.int i) (.int j) (.int (i / j)) := .ofQ fun G H x y Q w rx ry q => by
  cases rx; cases ry
  exact OpR.w op_fdiv ⟨i, j, rfl, rfl, h, q _ (.int _)⟩
theorem Op2.mod {i j : Int} (h : 0 < j) : Op2 X (binaryOp .Mod) (.int i) (.int j) (.int (i % j)) := .ofQ fun G H x y Q w rx ry q => by
  cases rx; cases ry
  exact OpR.w op_mod ⟨i, j, rfl, rfl, h, q _ (.int _)⟩
theorem Op2.pow {i j : Int} (h : CPow i j) : Op2 X (binaryOp .Pow) (.int i) (.int j) (.int (i ^ j.toNat)) := .ofQ fun G H x y Q w rx ry q => by
  cases rx; cases ry
  exact OpR.w op_pow ⟨i, j, rfl, rfl, h, q _ (.int _)⟩
theorem Op2.addStr {i j : Str} (h : i.length + j.length ≤ sizeLine) : Op2 X (binaryOp .Add) (.str i) (.str j) (.str (i ++ j)) := .ofQ fun G H x y Q w rx ry q => by
  cases rx; cases ry
  exact OpR.w op_add_str ⟨i, j, rfl, rfl, h, q _ (.str _)⟩
theorem Op2.cat {as bs : List Dat} (h : as.length + bs.length ≤ sizeLine) : Op2 X (binaryOp .Add) (.list as) (.list bs) (.list (as ++ bs)) := fun G H x y Q w rx ry q => by
  cases rx with
  | @lst a1 xs _ ga ra =>
    cases ry with
    | @lst a2 ys _ gb rb =>
      refine OpR.w op_cat ⟨_, _, _, _, rfl, rfl, w.lstH ga, w.lstH gb, by rw [ra.length, rb.length]; exact h, fun p np => ?_⟩
      have ex := Ext.new (o := .lst (xs ++ ys)) w np
      exact q (.ref p) _ _ (.lst upd_same ((ra.app rb).mono ex.gg)) (w.new np) ex
theorem Op2.rep {as : List Dat} {k : Int} (h1 : -(2 ^ 63) ≤ k) (h2 : k < 2 ^ 63) (h : as.length * k.toNat ≤ sizeLine) : Op2 X (binaryOp .Mult) (.list as) (.int k) (.list (List.replicate k.toNat as).flatten) := fun G H x y Q w rx ry q => by
  cases rx with
  | @lst a1 xs _ ga ra =>
    cases ry
    refine OpR.w op_rep ⟨_, _, _, rfl, rfl, w.lstH ga, h1, h2, by rw [ra.length]; exact h, fun p np => ?_⟩
    have rr : ∀ n : Nat, RpA X.K G (List.replicate n xs).flatten (List.replicate n as).flatten := fun n => by
      induction n with
      | zero => exact .nil
      | succ n ih =>
        rw [List.replicate_succ, List.flatten_cons, List.replicate_succ, List.flatten_cons]
        exact ra.app ih
    have ex := Ext.new (o := .lst (List.replicate k.toNat xs).flatten) w np
    exact q (.ref p) _ _ (.lst upd_same ((rr k.toNat).mono ex.gg)) (w.new np) ex
/-! comparisons -/
theorem Cmp2.lt {i j : Int} : Cmp2 X (compareOp .Lt) (.int i) (.int j) (decide (i < j)) := fun G H x y Q w rx ry q => by
  cases rx; cases ry
  exact OpR.w op_lt ⟨i, j, rfl, rfl, q⟩
theorem Cmp2.le {i j : Int} : Cmp2 X (compareOp .LtE) (.int i) (.int j) (decide (i ≤ j)) := fun G H x y Q w rx ry q => by
  cases rx; cases ry
  exact OpR.w op_le ⟨i, j, rfl, rfl, q⟩
theorem Cmp2.gt {i j : Int} : Cmp2 X (compareOp .Gt) (.int i) (.int j) (decide (j < i)) := fun G H x y Q w rx ry q => by
  cases rx; cases ry
  exact OpR.w op_gt ⟨i, j, rfl, rfl, q⟩
theorem Cmp2.ge {i j : Int} : Cmp2 X (compareOp .GtE) (.int i) (.int j) (decide (j ≤ i)) := fun G H x y Q w rx ry q => by
  cases rx; cases ry
  exact OpR.w op_ge ⟨i, j, rfl, rfl, q⟩
theorem Cmp2.eqI {i j : Int} : Cmp2 X (compareOp .Eq) (.int i) (.int j) (decide (i = j)) := fun G H x y Q w rx ry q => by
  cases rx; cases ry
  refine OpR.w op_eq ⟨rfl, ?_⟩
  rw [show decide (V.int i = V.int j) = decide (i = j) from decide_eq_decide.mpr ⟨fun e => V.int.inj e, fun e => by rw [e]⟩]
  exact q
theorem Cmp2.neI {i j : Int} : Cmp2 X (compareOp .NotEq) (.int i) (.int j) (!decide (i = j)) := fun G H x y Q w rx ry q => by
  cases rx; cases ry
  refine OpR.w op_ne ⟨rfl, ?_⟩
  rw [show decide (V.int i = V.int j) = decide (i = j) from decide_eq_decide.mpr ⟨fun e => V.int.inj e, fun e => by rw [e]⟩]
  exact q
theorem Cmp2.eqS {i j : Str} : Cmp2 X (compareOp .Eq) (.str i) (.str j) (decide (i = j)) := fun G H x y Q w rx ry q => by
  cases rx; cases ry
  refine OpR.w op_eq ⟨rfl, ?_⟩
  rw [show decide (V.str i = V.str j) = decide (i = j) from decide_eq_decide.mpr ⟨fun e => V.str.inj e, fun e => by rw [e]⟩]
  exact q
theorem Cmp2.neS {i j : Str} : Cmp2 X (compareOp .NotEq) (.str i) (.str j) (!decide (i = j)) := fun G H x y Q w rx ry q => by
  cases rx; cases ry
  refine OpR.w op_ne ⟨rfl, ?_⟩
  rw [show decide (V.str i = V.str j) = decide (i = j) from decide_eq_decide.mpr ⟨fun e => V.str.inj e, fun e => by rw [e]⟩]
  exact q
theorem Cmp2.isNone {d : Dat} {b : Bool} (h : b = match d with | .none => true | _ => false) : Cmp2 X (compareOp .Is) d .none b := fun G H x y Q w rx ry q => by
  cases ry
  refine OpR.w op_isN ⟨rfl, ?_⟩
  subst h
  cases rx <;> exact q
theorem Cmp2.notNone {d : Dat} {b : Bool} (h : b = match d with | .none => false | _ => true) : Cmp2 X (compareOp .IsNot) d .none b := fun G H x y Q w rx ry q => by
  cases ry
  refine OpR.w op_notN ⟨rfl, ?_⟩
  subst h
  cases rx <;> exact q
/-! data as a whole -/
theorem Cmp2.eqD (g : Gx X) {d1 d2 : Dat} (h1 : SeqAt.shaped d1.py = true) (h2 : SeqAt.shaped d2.py = true) : Cmp2 X (compareOp .Eq) d1 d2 (PyData.eqv d1.py d2.py) := fun G H x y Q w rx ry q pins s σ v u I rv ru => by
  obtain ⟨as, ra, _⟩ := rx.reads g.sm I w rv
  obtain ⟨bs, rb, _⟩ := ry.reads g.sm I w ru
  exact SeqAt.compareEq_shaped ra rb h1 h2 (by have := g.hu; omega) ⟨.bl _, H, I, rfl, q⟩
theorem Cmp2.neD (g : Gx X) {d1 d2 : Dat} (h1 : SeqAt.shaped d1.py = true) (h2 : SeqAt.shaped d2.py = true) : Cmp2 X (compareOp .NotEq) d1 d2 (!PyData.eqv d1.py d2.py) := fun G H x y Q w rx ry q pins s σ v u I rv ru => by
  obtain ⟨as, ra, _⟩ := rx.reads g.sm I w rv
  obtain ⟨bs, rb, _⟩ := ry.reads g.sm I w ru
  exact SeqAt.compareNe_shaped ra rb h1 h2 (by have := g.hu; omega) ⟨.bl _, H, I, rfl, q⟩
theorem Cmp2.inL (g : Gx X) {d : Dat} {ds : List Dat} (h1 : SeqAt.shaped d.py = true) (h2 : SeqAt.shaped (Dat.list ds).py = true) : Cmp2 X (compareOp .In) d (.list ds) ((pyAll ds).any fun z => PyData.eqv z d.py) := fun G H x y Q w rx ry q pins s σ v u I rv ru => by
  obtain ⟨as, ra, _⟩ := rx.reads g.sm I w rv
  obtain ⟨bs, rb, _⟩ := ry.reads g.sm I w ru
  exact SeqAt.in_list_reads rb ra (SeqAt.canLay_of_shaped h2) (SeqAt.canLay_of_shaped h1) (room_in_shaped h1 (by have := g.hu; omega)) ⟨.bl _, H, I, rfl, q⟩
theorem Cmp2.notInL (g : Gx X) {d : Dat} {ds : List Dat} (h1 : SeqAt.shaped d.py = true) (h2 : SeqAt.shaped (Dat.list ds).py = true) : Cmp2 X (compareOp .NotIn) d (.list ds) (!(pyAll ds).any fun z => PyData.eqv z d.py) := fun G H x y Q w rx ry q pins s σ v u I rv ru => by
  obtain ⟨as, ra, _⟩ := rx.reads g.sm I w rv
  obtain ⟨bs, rb, _⟩ := ry.reads g.sm I w ru
  exact SeqAt.notIn_list_reads rb ra (SeqAt.canLay_of_shaped h2) (SeqAt.canLay_of_shaped h1) (room_in_shaped h1 (by have := g.hu; omega)) ⟨.bl _, H, I, rfl, q⟩
theorem Cmp2.inT (g : Gx X) {d : Dat} {ds : List Dat} (h1 : SeqAt.shaped d.py = true) (h2 : SeqAt.shaped (Dat.tuple ds).py = true) : Cmp2 X (compareOp .In) d (.tuple ds) ((pyAll ds).any fun z => PyData.eqv z d.py) := fun G H x y Q w rx ry q pins s σ v u I rv ru => by
  obtain ⟨as, ra, _⟩ := rx.reads g.sm I w rv
  obtain ⟨bs, rb, _⟩ := ry.reads g.sm I w ru
  exact SeqAt.in_tuple_reads rb ra (SeqAt.canLay_of_shaped h2) (SeqAt.canLay_of_shaped h1) (room_in_shaped h1 (by have := g.hu; omega)) ⟨.bl _, H, I, rfl, q⟩
theorem Cmp2.notInT (g : Gx X) {d : Dat} {ds : List Dat} (h1 : SeqAt.shaped d.py = true) (h2 : SeqAt.shaped (Dat.tuple ds).py = true) : Cmp2 X (compareOp .NotIn) d (.tuple ds) (!(pyAll ds).any fun z => PyData.eqv z d.py) := fun G H x y Q w rx ry q pins s σ v u I rv ru => by
  obtain ⟨as, ra, _⟩ := rx.reads g.sm I w rv
  obtain ⟨bs, rb, _⟩ := ry.reads g.sm I w ru
  exact SeqAt.notIn_tuple_reads rb ra (SeqAt.canLay_of_shaped h2) (SeqAt.canLay_of_shaped h1) (room_in_shaped h1 (by have := g.hu; omega)) ⟨.bl _, H, I, rfl, q⟩
end
end K94
end

/-! text KE1 -/
section
set_option Elab.async false
set_option linter.all false
set_option maxRecDepth 100000
set_option maxHeartbeats 4000000
set_option autoImplicit true
/-! more rules: membership, items, slices, calls of built-ins -/
namespace K94
open PySem PySem.Spec PyProof.Rows L2

/-! ### flat data -/
theorem inV_strs (k : Str) : ∀ ks : List Str, inV (.str k) (ks.map V.str) = decide (k ∈ ks)
  | [] => rfl
  | x :: ks => by
    have e : inV (.str k) ((x :: ks).map V.str) = ((x == k) || inV (.str k) (ks.map V.str)) := rfl
    rw [e, inV_strs k ks]
    by_cases h : x = k
    · subst h; simp
    · have h' : (x == k) = false := beq_eq_false_iff_ne.mpr h
      have h2 : ¬ k = x := fun z => h z.symm
      rw [h', Bool.false_or]
      exact decide_eq_decide.mpr ⟨fun z => List.mem_cons_of_mem _ z, fun z => (List.mem_cons.mp z).resolve_left h2⟩
theorem inV_ints (k : Int) : ∀ ks : List Int, inV (.int k) (ks.map V.int) = decide (k ∈ ks)
  | [] => rfl
  | x :: ks => by
    have e : inV (.int k) ((x :: ks).map V.int) = ((x == k) || inV (.int k) (ks.map V.int)) := rfl
    rw [e, inV_ints k ks]
    by_cases h : x = k
    · subst h; simp
    · have h' : (x == k) = false := beq_eq_false_iff_ne.mpr h
      have h2 : ¬ k = x := fun z => h z.symm
      rw [h', Bool.false_or]
      exact decide_eq_decide.mpr ⟨fun z => List.mem_cons_of_mem _ z, fun z => (List.mem_cons.mp z).resolve_left h2⟩
/-- an int or None -/
def oD : Option Int → Dat
  | none => .none
  | some i => .int i
def oV : Option Int → V
  | none => .non
  | some i => .int i
theorem inV_opts (k : Int) : ∀ ks : List (Option Int), inV (.int k) (ks.map oV) = decide (some k ∈ ks)
  | [] => rfl
  | x :: ks => by
    have e : inV (.int k) ((x :: ks).map oV) = (eqV (oV x) (.int k) || inV (.int k) (ks.map oV)) := rfl
    rw [e, inV_opts k ks]
    by_cases h : x = some k
    · subst h
      have h0 : eqV (oV (some k)) (.int k) = true := beq_self_eq_true k
      rw [h0]; simp
    · have h' : eqV (oV x) (.int k) = false := by
        cases x with
        | none => rfl
        | some j => exact beq_eq_false_iff_ne.mpr fun z => h (by rw [z])
      have h2 : ¬ some k = x := fun z => h z.symm
      rw [h', Bool.false_or]
      exact decide_eq_decide.mpr ⟨fun z => List.mem_cons_of_mem _ z, fun z => (List.mem_cons.mp z).resolve_left h2⟩
theorem flatInts (ys : List Int) : (ys.map V.int).all flatV = true := by
  rw [List.all_map]
  exact List.all_eq_true.mpr fun _ _ => rfl
theorem flatOpts (ys : List (Option Int)) : (ys.map oV).all flatV = true := by
  rw [List.all_map]
  exact List.all_eq_true.mpr fun x _ => by cases x <;> rfl
section
variable {K : PySem.W.Frag} {G : Hp}
theorem RpA.opts : ∀ {ns : List (Option Int)} {vs : List V}, RpA K G vs (ns.map oD) → vs = ns.map oV
  | [], _, .nil => rfl
  | none :: ns, _, .cons r t => by
    have r' : Rp K G _ .none := r
    cases r'
    rw [List.map_cons, RpA.opts (ns := ns) t]; rfl
  | some n :: ns, _, .cons r t => by
    have r' : Rp K G _ (.int n) := r
    cases r'
    rw [List.map_cons, RpA.opts (ns := ns) t]; rfl
end
section
variable {X : Cx}
theorem Cmp2.inTS {k : Str} {ks : List Str} : Cmp2 X (compareOp .In) (.str k) (tS ks) (decide (k ∈ ks)) := fun G H x y Q w rx ry q => by
  cases rx
  cases ry with
  | @tup a xs _ ga ra =>
    have e := ra.strs
    subst e
    refine OpR.w op_in_seq ⟨a, _, rfl, .inr (SqT.of (w.tupH ga)), rfl, flat_strs ks, ?_⟩
    simp only [Bool.false_eq_true, if_false, inV_strs]
    exact q
theorem Cmp2.notInTS {k : Str} {ks : List Str} : Cmp2 X (compareOp .NotIn) (.str k) (tS ks) (!decide (k ∈ ks)) := fun G H x y Q w rx ry q => by
  cases rx
  cases ry with
  | @tup a xs _ ga ra =>
    have e := ra.strs
    subst e
    refine OpR.w op_notIn_seq ⟨a, _, rfl, .inr (SqT.of (w.tupH ga)), rfl, flat_strs ks, ?_⟩
    simp only [if_true, inV_strs]
    exact q
theorem Cmp2.inFS {k : Str} {ks : List Str} : Cmp2 X (compareOp .In) (.str k) (.ftup (dS ks)) (decide (k ∈ ks)) := fun G H x y Q w rx ry q => by
  cases rx
  cases ry with
  | @ftup a ob xs _ ga hn ra =>
    have e := ra.strs
    subst e
    refine OpR.w op_in_seq ⟨a, _, rfl, .inr (.inl (w.rd2 (.inr ⟨ob, ga⟩))), rfl, flat_strs ks, ?_⟩
    simp only [Bool.false_eq_true, if_false, inV_strs]
    exact q
theorem Cmp2.notInFS {k : Str} {ks : List Str} : Cmp2 X (compareOp .NotIn) (.str k) (.ftup (dS ks)) (!decide (k ∈ ks)) := fun G H x y Q w rx ry q => by
  cases rx
  cases ry with
  | @ftup a ob xs _ ga hn ra =>
    have e := ra.strs
    subst e
    refine OpR.w op_notIn_seq ⟨a, _, rfl, .inr (.inl (w.rd2 (.inr ⟨ob, ga⟩))), rfl, flat_strs ks, ?_⟩
    simp only [if_true, inV_strs]
    exact q
theorem Cmp2.inLS {k : Str} {ks : List Str} : Cmp2 X (compareOp .In) (.str k) (lS ks) (decide (k ∈ ks)) := fun G H x y Q w rx ry q => by
  cases rx
  cases ry with
  | @lst a xs _ ga ra =>
    have e := ra.strs
    subst e
    refine OpR.w op_in_seq ⟨a, _, rfl, .inl (SqL.of (w.lstH ga)), rfl, flat_strs ks, ?_⟩
    simp only [Bool.false_eq_true, if_false, inV_strs]
    exact q
theorem Cmp2.notInLS {k : Str} {ks : List Str} : Cmp2 X (compareOp .NotIn) (.str k) (lS ks) (!decide (k ∈ ks)) := fun G H x y Q w rx ry q => by
  cases rx
  cases ry with
  | @lst a xs _ ga ra =>
    have e := ra.strs
    subst e
    refine OpR.w op_notIn_seq ⟨a, _, rfl, .inl (SqL.of (w.lstH ga)), rfl, flat_strs ks, ?_⟩
    simp only [if_true, inV_strs]
    exact q
theorem Cmp2.inTI {k : Int} {ks : List Int} : Cmp2 X (compareOp .In) (.int k) (.tuple (ks.map Dat.int)) (decide (k ∈ ks)) := fun G H x y Q w rx ry q => by
  cases rx
  cases ry with
  | @tup a xs _ ga ra =>
    have e := ra.ints
    subst e
    refine OpR.w op_in_seq ⟨a, _, rfl, .inr (SqT.of (w.tupH ga)), rfl, flatInts ks, ?_⟩
    simp only [Bool.false_eq_true, if_false, inV_ints]
    exact q
theorem Cmp2.inLO {k : Int} {ks : List (Option Int)} : Cmp2 X (compareOp .In) (.int k) (.list (ks.map oD)) (decide (some k ∈ ks)) := fun G H x y Q w rx ry q => by
  cases rx
  cases ry with
  | @lst a xs _ ga ra =>
    have e := ra.opts
    subst e
    refine OpR.w op_in_seq ⟨a, _, rfl, .inl (SqL.of (w.lstH ga)), rfl, flatOpts ks, ?_⟩
    simp only [Bool.false_eq_true, if_false, inV_opts]
    exact q
theorem Cmp2.notInLO {k : Int} {ks : List (Option Int)} : Cmp2 X (compareOp .NotIn) (.int k) (.list (ks.map oD)) (!decide (some k ∈ ks)) := fun G H x y Q w rx ry q => by
  cases rx
  cases ry with
  | @lst a xs _ ga ra =>
    have e := ra.opts
    subst e
    refine OpR.w op_notIn_seq ⟨a, _, rfl, .inl (SqL.of (w.lstH ga)), rfl, flatOpts ks, ?_⟩
    simp only [if_true, inV_opts]
    exact q
theorem Cmp2.inStr {c : Nat} {z : Str} : Cmp2 X (compareOp .In) (.str ⟨#[c]⟩) (.str z) (decide (c ∈ z.cps.toList)) := fun G H x y Q w rx ry q => by
  cases rx; cases ry
  exact OpR.w op_in_sign ⟨c, z, rfl, rfl, q⟩
/-- xs == [] -/
theorem Cmp2.eqNil (g : Gx X) {ds : List Dat} : Cmp2 X (compareOp .Eq) (.list ds) (.list []) ds.isEmpty := fun G H x y Q w rx ry q pins s σ v u I rv ru => by
  cases ds with
  | nil =>
    exact Cmp2.eqD g (d1 := .list []) (d2 := .list []) (by decide +kernel) (by decide +kernel) G H x y Q w rx ry (by exact q) pins s σ v u I rv ru
  | cons d ds =>
    cases rx with
    | @lst a xs _ ga ra =>
      cases ry with
      | @lst b ys _ gb rb =>
        cases rb
        cases rv
        cases ru
        obtain ⟨its, rt, pl, _⟩ := I.list (SqL.of (w.lstH ga))
        obtain ⟨its2, rt2, pl2, _⟩ := I.list (SqL.of (w.lstH gb))
        cases rt2
        refine SeqAt.RcAt.lists_lengths pl.isList pl2.isList ?_ (by have := g.hu; omega) _ _ _ _ ⟨.bl false, H, I, rfl, q⟩
        have e1 := ra.length
        have e2 := rt.length
        simp only [List.length_cons] at e1
        simp
        intro z
        subst z
        rw [e1] at e2
        cases e2
theorem Cmp2.neNil (g : Gx X) {ds : List Dat} : Cmp2 X (compareOp .NotEq) (.list ds) (.list []) (!ds.isEmpty) := fun G H x y Q w rx ry q pins s σ v u I rv ru => by
  cases ds with
  | nil =>
    exact Cmp2.neD g (d1 := .list []) (d2 := .list []) (by decide +kernel) (by decide +kernel) G H x y Q w rx ry (by exact q) pins s σ v u I rv ru
  | cons d ds =>
    cases rx with
    | @lst a xs _ ga ra =>
      cases ry with
      | @lst b ys _ gb rb =>
        cases rb
        cases rv
        cases ru
        obtain ⟨its, rt, pl, _⟩ := I.list (SqL.of (w.lstH ga))
        obtain ⟨its2, rt2, pl2, _⟩ := I.list (SqL.of (w.lstH gb))
        cases rt2
        refine SeqAt.RcNeAt.lists_lengths pl.isList pl2.isList ?_ (by have := g.hu; omega) _ _ _ _ ⟨.bl true, H, I, rfl, q⟩
        have e1 := ra.length
        have e2 := rt.length
        simp only [List.length_cons] at e1
        simp
        intro z
        subst z
        rw [e1] at e2
        cases e2
/-! ### items -/
def Ix2 (X : Cx) (d1 d2 d : Dat) : Prop := ∀ (G H : Hp) (x y : V) (Q : VK), Wd G H → Rp X.K G x d1 → Rp X.K G y d2 → (∀ z, Rp X.K G z d → Q z H) →
  ∀ (value slice : Expr) (pins : List (Addr × Obj)) (s : Shared) (σ : SS) (v u : Value), Inv X pins σ H s → RelV x v → RelV y u →
    subscripted slice false v u = operate [v, u] (getItem v u) → wpAny (model X.prog X.w) X.A (subscriptTail value slice v u) (EP X pins σ Q) X.xe s
theorem Ix2.ofR {r : R2} (h : IxR X r) {d1 d2 d : Dat} (k : ∀ (G H : Hp) (x y : V) (Q : VK), Wd G H → Rp X.K G x d1 → Rp X.K G y d2 → (∀ z, Rp X.K G z d → Q z H) → r x y H Q) : Ix2 X d1 d2 d := fun G H x y Q w rx ry q value slice pins s σ v u I rv ru hs =>
  h value slice pins s σ H x y v u Q I rv ru (k G H x y Q w rx ry q) hs
theorem atI_map {α β : Type} (f : α → β) (xs : List α) (i : Int) : atI (xs.map f) i = (atI xs i).map f := by
  unfold atI
  rw [List.length_map]
  cases ixN xs.length i with
  | none => rfl
  | some j => simp
theorem RpA.atI {K : PySem.W.Frag} {G : Hp} {vs : List V} {ds : List Dat} {i : Int} {d : Dat} (r : RpA K G vs ds) (h : L2.atI ds i = some d) : ∃ v, L2.atI vs i = some v ∧ Rp K G v d := by
  unfold L2.atI at h ⊢
  rw [r.length]
  cases e : ixN ds.length i with
  | none => rw [e] at h; cases h
  | some j =>
    rw [e] at h
    exact r.getR h
theorem Ix2.tup {ds : List Dat} {i : Int} {d : Dat} (h : atI ds i = some d) : Ix2 X (.tuple ds) (.int i) d := .ofR ix_tup fun G H x y Q w rx ry q => by
  cases ry
  cases rx with
  | tup ga ra =>
    obtain ⟨v, hv, rv⟩ := ra.atI h
    exact ⟨_, _, _, v, rfl, rfl, SqT.of (w.tupH ga), hv, q v rv⟩
theorem Ix2.ftup {ds : List Dat} {i : Int} {d : Dat} (h : atI ds i = some d) : Ix2 X (.ftup ds) (.int i) d := .ofR ix_tup fun G H x y Q w rx ry q => by
  cases ry
  cases rx with
  | @ftup a ob xs _ ga hn ra =>
    obtain ⟨v, hv, rv⟩ := ra.atI h
    exact ⟨_, _, _, v, rfl, rfl, .inl (w.rd2 (.inr ⟨ob, ga⟩)), hv, q v rv⟩
theorem Ix2.lst {ds : List Dat} {i : Int} {d : Dat} (h : atI ds i = some d) : Ix2 X (.list ds) (.int i) d := .ofR ix_list fun G H x y Q w rx ry q => by
  cases ry
  cases rx with
  | lst ga ra =>
    obtain ⟨v, hv, rv⟩ := ra.atI h
    exact ⟨_, _, _, v, rfl, rfl, SqL.of (w.lstH ga), hv, q v rv⟩
theorem Ix2.str {z : Str} {i : Int} {c : Nat} (hl : z.length ≤ sizeLine) (h : atI z.cps.toList i = some c) : Ix2 X (.str z) (.int i) (.str ⟨#[c]⟩) := .ofR ix_str fun G H x y Q w rx ry q => by
  cases ry
  cases rx
  exact ⟨z, i, c, rfl, rfl, hl, h, q _ (.str _)⟩

end
/-! ### what a dict has at a key -/
def isK : Dat → L2.Key → Bool
  | .int i, .inl j => decide (i = j)
  | .str x, .inr y => decide (x = y)
  | _, _ => false
def isKL : List Dat → List L2.Key → Bool
  | [], [] => true
  | d :: ds, k :: ks => isK d k && isKL ds ks
  | _, _ => false
def isKs : Dat → List L2.Key → Bool
  | .tuple ds, ks => isKL ds ks
  | _, _ => false
theorem isK_kD (k' k : L2.Key) : isK (kD k') k = decide (k' = k) := by
  cases k' with
  | inl i =>
    cases k with
    | inl j => exact decide_eq_decide.mpr ⟨fun e => by rw [e], fun e => Sum.inl.inj e⟩
    | inr y => exact (decide_eq_false fun e => by cases e).symm
  | inr x =>
    cases k with
    | inl j => exact (decide_eq_false fun e => by cases e).symm
    | inr y => exact decide_eq_decide.mpr ⟨fun e => by rw [e], fun e => Sum.inr.inj e⟩
theorem isKL_kD : ∀ ks' ks : List L2.Key, isKL (ks'.map kD) ks = decide (ks' = ks)
  | [], [] => rfl
  | [], _ :: _ => rfl
  | _ :: _, [] => rfl
  | k' :: ks', k :: ks => by
    show (isK (kD k') k && isKL (ks'.map kD) ks) = _
    rw [isK_kD, isKL_kD ks' ks]
    by_cases h : k' = k
    · subst h
      by_cases h2 : ks' = ks
      · subst h2; simp
      · simp [h2]
    · simp [h]
def dlook : List (Dat × Dat) → L2.Key → Option Dat
  | [], _ => none
  | p :: r, k => if isK p.1 k = true then some p.2 else dlook r k
def dlookT : List (Dat × Dat) → List L2.Key → Option Dat
  | [], _ => none
  | p :: r, k => if isKs p.1 k = true then some p.2 else dlookT r k
theorem RpK.look {K : PySem.W.Frag} {G : Hp} : ∀ {kvs : List (L2.Key × V)} {ds : List (Dat × Dat)}, RpK K G kvs ds → ∀ k : L2.Key, (∃ v d, valV kvs k = some v ∧ dlook ds k = some d ∧ Rp K G v d) ∨ (valV kvs k = none ∧ dlook ds k = none)
  | _, _, .nil, k => .inr ⟨rfl, rfl⟩
  | _, _, @RpK.cons _ _ k' v' vs d' ds r t, k => by
    by_cases h : k' = k
    · refine .inl ⟨v', d', valV_pos h, ?_, r⟩
      unfold dlook
      rw [if_pos (by rw [isK_kD]; exact decide_eq_true h)]
    · have e : dlook ((kD k', d') :: ds) k = dlook ds k := by
        conv => lhs; unfold dlook
        rw [if_neg (by rw [isK_kD, decide_eq_false h]; exact Bool.false_ne_true)]
      rw [e, valV_neg (p := (k', v')) h]
      exact RpK.look t k
theorem RpT.look {K : PySem.W.Frag} {G : Hp} : ∀ {kvs : List (List L2.Key × V)} {ds : List (Dat × Dat)}, RpT K G kvs ds → ∀ k : List L2.Key, (∃ v d, valV kvs k = some v ∧ dlookT ds k = some d ∧ Rp K G v d) ∨ (valV kvs k = none ∧ dlookT ds k = none)
  | _, _, .nil, k => .inr ⟨rfl, rfl⟩
  | _, _, @RpT.cons _ _ k' v' vs d' ds r t, k => by
    have ek : isKs (.tuple (k'.map kD)) k = decide (k' = k) := isKL_kD k' k
    by_cases h : k' = k
    · refine .inl ⟨v', d', valV_pos h, ?_, r⟩
      unfold dlookT
      rw [if_pos (by rw [ek]; exact decide_eq_true h)]
    · have e : dlookT ((.tuple (k'.map kD), d') :: ds) k = dlookT ds k := by
        conv => lhs; unfold dlookT
        rw [if_neg (by rw [ek, decide_eq_false h]; exact Bool.false_ne_true)]
      rw [e, valV_neg (p := (k', v')) h]
      exact RpT.look t k
theorem RpT.noK {K : PySem.W.Frag} {G : Hp} : ∀ {kvs : List (List L2.Key × V)} {ds : List (Dat × Dat)}, RpT K G kvs ds → ∀ k : L2.Key, dlook ds k = none
  | _, _, .nil, k => rfl
  | _, _, @RpT.cons _ _ k' v' vs d' ds r t, k => by
    unfold dlook
    rw [if_neg (by cases k <;> exact Bool.false_ne_true)]
    exact RpT.noK t k
theorem RpK.noT {K : PySem.W.Frag} {G : Hp} : ∀ {kvs : List (L2.Key × V)} {ds : List (Dat × Dat)}, RpK K G kvs ds → ∀ k : List L2.Key, dlookT ds k = none
  | _, _, .nil, k => rfl
  | _, _, @RpK.cons _ _ k' v' vs d' ds r t, k => by
    unfold dlookT
    rw [if_neg (by cases k' <;> exact Bool.false_ne_true)]
    exact RpK.noT t k
/-- a key, as data -/
inductive KeyIs : Dat → L2.Key → Prop
  | int (i : Int) : KeyIs (.int i) (.inl i)
  | str (x : Str) : KeyIs (.str x) (.inr x)
theorem KeyIs.v {K : PySem.W.Frag} {G : Hp} {x : V} {d : Dat} {k : L2.Key} (h : KeyIs d k) (r : Rp K G x d) : x = kV k := by
  cases h <;> cases r <;> rfl
theorem RpA.keyVs {K : PySem.W.Frag} {G : Hp} : ∀ {vs : List V} {ks : List L2.Key}, RpA K G vs (ks.map kD) → vs = ks.map kV
  | _, [], .nil => rfl
  | _, .inl i :: ks, .cons r t => by
    have r' : Rp K G _ (.int i) := r
    cases r'
    rw [RpA.keyVs t]; rfl
  | _, .inr i :: ks, .cons r t => by
    have r' : Rp K G _ (.str i) := r
    cases r'
    rw [RpA.keyVs t]; rfl
section
variable {X : Cx}
/-- a key that is a tuple, as data -/
abbrev tK (ks : List L2.Key) : Dat := .tuple (ks.map kD)
/-- the keys of a dict are ints and texts; tuples of such -/
def Atoms (ds : List (Dat × Dat)) : Prop := ∀ p ∈ ds, ∃ k : L2.Key, p.1 = kD k
def Tups (ds : List (Dat × Dat)) : Prop := ds ≠ [] ∧ ∀ p ∈ ds, ∃ ks : List L2.Key, p.1 = tK ks
theorem kD_ne_tK {k : L2.Key} {ks : List L2.Key} : kD k ≠ tK ks := fun e => by cases k <;> cases e
theorem Rp.dictK {K : PySem.W.Frag} {G : Hp} {x : V} {ds : List (Dat × Dat)} (r : Rp K G x (.dict ds)) (h : Atoms ds) : ∃ a kvs, x = .ref a ∧ G a = some (.dK kvs) ∧ RpK K G kvs ds := by
  cases r with
  | dk ga ra => exact ⟨_, _, rfl, ga, ra⟩
  | dt ga ne ra =>
    cases ra with
    | nil => exact (ne rfl).elim
    | cons r t =>
      obtain ⟨k, hk⟩ := h _ List.mem_cons_self
      exact (kD_ne_tK hk.symm).elim
theorem Rp.dictT {K : PySem.W.Frag} {G : Hp} {x : V} {ds : List (Dat × Dat)} (r : Rp K G x (.dict ds)) (h : Tups ds) : ∃ a kvs, x = .ref a ∧ G a = some (.dT kvs) ∧ RpT K G kvs ds := by
  cases r with
  | dk ga ra =>
    cases ra with
    | nil => exact (h.1 rfl).elim
    | cons r t =>
      obtain ⟨k, hk⟩ := h.2 _ List.mem_cons_self
      exact (kD_ne_tK hk).elim
  | dt ga ne ra => exact ⟨_, _, rfl, ga, ra⟩
theorem dgetK {G H : Hp} {x y : V} {ds : List (Dat × Dat)} {dk : Dat} {k : L2.Key} (w : Wd G H) (hk : KeyIs dk k) (rx : Rp X.K G x (.dict ds)) (ry : Rp X.K G y dk) (ha : Atoms ds) :
    ∃ a o, x = .ref a ∧ IsD H a ∧ DGet H a y o ∧ ((∃ v d, o = some v ∧ dlook ds k = some d ∧ Rp X.K G v d) ∨ (o = none ∧ dlook ds k = none)) := by
  obtain ⟨a, kvs, e, ga, ra⟩ := rx.dictK ha
  refine ⟨_, _, e, .inl ⟨_, w.rd ga⟩, .inl ⟨_, k, w.rd ga, hk.v ry, rfl⟩, ?_⟩
  rcases ra.look k with ⟨v, d', h1, h2, r⟩ | ⟨h1, h2⟩
  · exact .inl ⟨v, d', h1, h2, r⟩
  · exact .inr ⟨h1, h2⟩
theorem dgetT {G H : Hp} {x y : V} {ds : List (Dat × Dat)} {k : List L2.Key} (w : Wd G H) (rx : Rp X.K G x (.dict ds)) (ry : Rp X.K G y (tK k)) (ht : Tups ds) :
    ∃ a o, x = .ref a ∧ IsD H a ∧ DGet H a y o ∧ ((∃ v d, o = some v ∧ dlookT ds k = some d ∧ Rp X.K G v d) ∨ (o = none ∧ dlookT ds k = none)) := by
  obtain ⟨a, kvs, e, ga, ra⟩ := rx.dictT ht
  cases ry with
  | @tup b ys _ gb rb =>
    have e2 := rb.keyVs
    subst e2
    refine ⟨_, _, e, .inr ⟨_, w.rd ga⟩, .inr ⟨_, k, b, w.rd ga, rfl, w.tupH gb, rfl⟩, ?_⟩
    rcases ra.look k with ⟨v, d', h1, h2, r⟩ | ⟨h1, h2⟩
    · exact .inl ⟨v, d', h1, h2, r⟩
    · exact .inr ⟨h1, h2⟩
variable {δ : List Cell} {a b : Expr} {d d1 d2 : Dat} {Ψ : Dat → List Cell → Prop} {pos : Pos}
theorem EvI.ix (h : EvI X δ a fun d1 δ1 => EvI X δ1 b fun d2 δ2 => ∃ d, Ix2 X d1 d2 d ∧ Ψ d δ2) (hs : PlainIx b := by intro _ _; rfl) : EvI X δ (.Subscript a b pos) Ψ := fun σ G H m Q q => by
  refine PE.w (pe_ix (r := fun x y H Q => ∀ (value slice : Expr) (pins : List (Addr × Obj)) (s : Shared) (σ : SS) (v u : Value), Inv X pins σ H s → RelV x v → RelV y u →
    subscripted slice false v u = operate [v, u] (getItem v u) → wpAny (model X.prog X.w) X.A (subscriptTail value slice v u) (EP X pins σ Q) X.xe s) ?_ peW peW hs) (two m h fun d1 d2 δ2 x y G2 H2 hc m2 r1 r2 f2 => ?_)
  · intro value slice pins s σ H x y v u Q I rv ru h hs
    exact h value slice pins s σ v u I rv ru hs
  · obtain ⟨d, ho, hd⟩ := hc
    exact ho G2 H2 x y Q m2.wd r1 r2 fun z rz => q d δ2 z G2 H2 hd m2 rz f2
theorem EvP.ix (ha : EvP X δ a d1) (hb : EvP X δ b d2) (ho : Ix2 X d1 d2 d) (hs : PlainIx b := by intro _ _; rfl) : EvP X δ (.Subscript a b pos) d := fun σ G H m Q q => by
  refine PE.w (pe_ix (r := fun x y H Q => ∀ (value slice : Expr) (pins : List (Addr × Obj)) (s : Shared) (σ : SS) (v u : Value), Inv X pins σ H s → RelV x v → RelV y u →
    subscripted slice false v u = operate [v, u] (getItem v u) → wpAny (model X.prog X.w) X.A (subscriptTail value slice v u) (EP X pins σ Q) X.xe s) ?_ peW peW hs) (twoP m ha hb fun x y G2 H2 m2 r1 r2 f2 => ?_)
  · intro value slice pins s σ H x y v u Q I rv ru h hs
    exact h value slice pins s σ v u I rv ru hs
  · exact ho G2 H2 x y Q m2.wd r1 r2 fun z rz => q z G2 H2 rz m2.wd f2
/-- d[k] -/
theorem EvP.dgetK (g : Gx X) {ds : List (Dat × Dat)} {k : L2.Key} (ha : EvP X δ a (.dict ds)) (hb : EvP X δ b d2) (hk : KeyIs d2 k) (at_ : Atoms ds) (hd : dlook ds k = some d) (hs : NoSl b := by intro _ _; rfl) : EvP X δ (.Subscript a b pos) d := fun σ G H m Q q => by
  refine PE.w (pe_dget (by have := g.hu; omega) peW peW hs) (twoP m ha hb fun x y G2 H2 m2 r1 r2 f2 => ?_)
  obtain ⟨p, o, e, _, hg, hr⟩ := K94.dgetK (H := H2) m2.wd hk r1 r2 at_
  rcases hr with ⟨v, d', rfl, h2, rv⟩ | ⟨_, h2⟩
  · rw [hd] at h2
    cases h2
    exact ⟨p, v, e, hg, q v G2 H2 rv m2.wd f2⟩
  · rw [hd] at h2
    cases h2
theorem EvP.dgetT (g : Gx X) {ds : List (Dat × Dat)} {k : List L2.Key} (ha : EvP X δ a (.dict ds)) (hb : EvP X δ b (tK k)) (at_ : Tups ds) (hd : dlookT ds k = some d) (hs : NoSl b := by intro _ _; rfl) : EvP X δ (.Subscript a b pos) d := fun σ G H m Q q => by
  refine PE.w (pe_dget (by have := g.hu; omega) peW peW hs) (twoP m ha hb fun x y G2 H2 m2 r1 r2 f2 => ?_)
  obtain ⟨p, o, e, _, hg, hr⟩ := K94.dgetT (H := H2) m2.wd r1 r2 at_
  rcases hr with ⟨v, d', rfl, h2, rv⟩ | ⟨_, h2⟩
  · rw [hd] at h2
    cases h2
    exact ⟨p, v, e, hg, q v G2 H2 rv m2.wd f2⟩
  · rw [hd] at h2
    cases h2
/-- k in d, k not in d -/
theorem EvP.dinK (g : Gx X) {ds : List (Dat × Dat)} {k : L2.Key} (ha : EvP X δ a d2) (hb : EvP X δ b (.dict ds)) (hk : KeyIs d2 k) (at_ : Atoms ds) (h1 : behindInMarks .In b = false := by rfl) : EvP X δ (.Compare a [.In] [b] pos) (.bool (dlook ds k).isSome) := fun σ G H m Q q => by
  refine PE.w (pe_cmp (pc_din (by have := g.hu; omega) peW peW) h1) (twoP m ha hb fun x y G2 H2 m2 r1 r2 f2 => ?_)
  obtain ⟨p, o, e, _, hg, hr⟩ := K94.dgetK (H := H2) m2.wd hk r2 r1 at_
  refine ⟨p, o, e, hg, q _ G2 H2 ?_ m2.wd f2⟩
  rcases hr with ⟨v, d', rfl, h2, rv⟩ | ⟨rfl, h2⟩
  · rw [h2]; exact .bl true
  · rw [h2]; exact .bl false
theorem EvTP.dinK (g : Gx X) {ds : List (Dat × Dat)} {k : L2.Key} (ha : EvP X δ a d2) (hb : EvP X δ b (.dict ds)) (hk : KeyIs d2 k) (at_ : Atoms ds) (h1 : behindInMarks .In b = false := by rfl) : EvTP X δ (.Compare a [.In] [b] pos) (dlook ds k).isSome := fun σ G H m Q q => by
  refine PT.w (pt_cmp (pc_din (by have := g.hu; omega) peW peW) h1) (twoP m ha hb fun x y G2 H2 m2 r1 r2 f2 => ?_)
  obtain ⟨p, o, e, _, hg, hr⟩ := K94.dgetK (H := H2) m2.wd hk r2 r1 at_
  refine ⟨p, o, e, hg, _, rfl, ?_⟩
  rcases hr with ⟨v, d', rfl, h2, rv⟩ | ⟨rfl, h2⟩
  · rw [h2] at q; exact q G2 H2 m2.wd f2
  · rw [h2] at q; exact q G2 H2 m2.wd f2
theorem EvTP.dinT (g : Gx X) {ds : List (Dat × Dat)} {k : List L2.Key} (ha : EvP X δ a (tK k)) (hb : EvP X δ b (.dict ds)) (at_ : Tups ds) (h1 : behindInMarks .In b = false := by rfl) : EvTP X δ (.Compare a [.In] [b] pos) (dlookT ds k).isSome := fun σ G H m Q q => by
  refine PT.w (pt_cmp (pc_din (by have := g.hu; omega) peW peW) h1) (twoP m ha hb fun x y G2 H2 m2 r1 r2 f2 => ?_)
  obtain ⟨p, o, e, _, hg, hr⟩ := K94.dgetT (H := H2) m2.wd r2 r1 at_
  refine ⟨p, o, e, hg, _, rfl, ?_⟩
  rcases hr with ⟨v, d', rfl, h2, rv⟩ | ⟨rfl, h2⟩
  · rw [h2] at q; exact q G2 H2 m2.wd f2
  · rw [h2] at q; exact q G2 H2 m2.wd f2
end
end K94
end

/-! text KF -/
section
set_option Elab.async false
set_option linter.all false
set_option maxRecDepth 100000
set_option maxHeartbeats 4000000
set_option autoImplicit true
/-! calls of built-ins, slices, methods that only read -/
namespace K94
open PySem PySem.Spec PyProof.Rows L2

section
variable (X : Cx)
def wpF (f : Value) (vs : List V) (H : Hp) (Q : VK) : Prop := ∀ (pins : List (Addr × Obj)) (s : Shared) (σ : SS) (us : List Value), Inv X pins σ H s → Vals vs us → wpAny (model X.prog X.w) X.A (call f us) (EP X pins σ Q) X.xe s
/-- a call of a value, by data -/
def CallD (f : Value) (ds : List Dat) (d : Dat) : Prop :=
  ∀ (G H : Hp) (vs : List V) (Q : VK), Wd G H → RpA X.K G vs ds → (∀ (z : V) (G' H' : Hp), Rp X.K G' z d → Wd G' H' → Ext G H G' H' → Q z H') → wpF X f vs H Q
def wpM (fid : String) (x : V) (vs : List V) (H : Hp) (Q : VK) : Prop := ∀ (pins : List (Addr × Obj)) (s : Shared) (σ : SS) (v : Value) (us : List Value), Inv X pins σ H s → RelV x v → Vals vs us → wpAny (model X.prog X.w) X.A (call (.builtin fid) (v :: us)) (EP X pins σ Q) X.xe s
def MetD (fid : String) (d0 : Dat) (ds : List Dat) (d : Dat) : Prop :=
  ∀ (G H : Hp) (x : V) (vs : List V) (Q : VK), Wd G H → Rp X.K G x d0 → RpA X.K G vs ds → (∀ (z : V) (G' H' : Hp), Rp X.K G' z d → Wd G' H' → Ext G H G' H' → Q z H') → wpM X fid x vs H Q
end
section
variable {X : Cx} {δ : List Cell} {e : Expr} {es : List Expr} {d : Dat} {ds : List Dat} {Ψ : Dat → List Cell → Prop} {p pos : Pos} {x : Str} {fid T : String}
theorem callW {f : Value} : CallR X f (wpF X f) := fun pins s σ H xs us Q I r h => h pins s σ us I r
theorem CallR.w {f : Value} {r : List V → Hp → VK → Prop} (h : CallR X f r) {vs : List V} {H : Hp} {Q : VK} (k : r vs H Q) : wpF X f vs H Q := fun pins s σ us I rv => h pins s σ H vs us Q I rv k
theorem metW : MtR X fid (wpM X fid) := fun pins s σ H x xs v us Q I rx r h => h pins s σ v us I rx r
theorem MtR.w {r : V → List V → Hp → VK → Prop} (h : MtR X fid r) {x : V} {vs : List V} {H : Hp} {Q : VK} (k : r x vs H Q) : wpM X fid x vs H Q := fun pins s σ v us I rx rv => h pins s σ H x vs v us Q I rx rv k
theorem CallD.ofQ {f : Value} (h : ∀ (G H : Hp) (vs : List V) (Q : VK), Wd G H → RpA X.K G vs ds → (∀ z, Rp X.K G z d → Q z H) → wpF X f vs H Q) : CallD X f ds d := fun G H vs Q w r q => h G H vs Q w r fun z rz => q z G H rz w (Fr.refl _ _ _)
theorem EvI.callB (h : EvA X δ (e :: es) fun ds δ' => ∃ d, CallD X (.builtin fid) ds d ∧ Ψ d δ') (hm : X.mg x = none) (hv : bootBuiltins x = some (.builtin fid) := by decide +kernel) (hg : Gl X x := by rfl) (hn : x ≠ "__name__" := by decide) (hdb : (x == ("__debug__" : Str)) = false := by decide)
    (he : starEach (e :: es) X.env = (false, eval e X.env) :: starEach es X.env := by rfl) (hpl : (backTo pos (starEach es X.env)).any (·.1) = false := by rfl) : EvI X δ (.Call (.Name x p) (e :: es) [] pos) Ψ := fun σ G H m Q q => by
  refine PE.w (pe_callB callW hg hm hv paW hn hdb he hpl) (h σ G H m _ fun ds δ' vs G' H' hd m' r f => ?_)
  obtain ⟨d, hc, hd⟩ := hd
  exact hc G' H' vs Q m'.wd r fun z G2 H2 rz w ex => q d δ' z G2 H2 hd (m'.ext ex w) rz (f.trans (Ext.up ex _))
theorem EvI.callT (h : EvA X δ (e :: es) fun ds δ' => ∃ d, CallD X (.type T) ds d ∧ Ψ d δ') (hm : X.mg x = none) (hv : bootBuiltins x = some (.type T) := by decide +kernel) (hg : Gl X x := by rfl) (hn : x ≠ "__name__" := by decide) (hdb : (x == ("__debug__" : Str)) = false := by decide)
    (he : starEach (e :: es) X.env = (false, eval e X.env) :: starEach es X.env := by rfl) (hpl : (backTo pos (starEach es X.env)).any (·.1) = false := by rfl) : EvI X δ (.Call (.Name x p) (e :: es) [] pos) Ψ := fun σ G H m Q q => by
  refine PE.w (pe_callTy callW hg hm hv paW hn hdb he hpl) (h σ G H m _ fun ds δ' vs G' H' hd m' r f => ?_)
  obtain ⟨d, hc, hd⟩ := hd
  exact hc G' H' vs Q m'.wd r fun z G2 H2 rz w ex => q d δ' z G2 H2 hd (m'.ext ex w) rz (f.trans (Ext.up ex _))
theorem EvP.callB (h : EvAP X δ (e :: es) ds) (hc : CallD X (.builtin fid) ds d) (hm : X.mg x = none) (hv : bootBuiltins x = some (.builtin fid) := by decide +kernel) (hg : Gl X x := by rfl) (hn : x ≠ "__name__" := by decide) (hdb : (x == ("__debug__" : Str)) = false := by decide)
    (he : starEach (e :: es) X.env = (false, eval e X.env) :: starEach es X.env := by rfl) (hpl : (backTo pos (starEach es X.env)).any (·.1) = false := by rfl) : EvP X δ (.Call (.Name x p) (e :: es) [] pos) d := fun σ G H m Q q =>
  PE.w (pe_callB callW hg hm hv paW hn hdb he hpl) (h σ G H m _ fun vs G' H' r w ex => hc G' H' vs Q w r fun z G2 H2 rz w2 ex2 => q z G2 H2 rz w2 (ex.trans ex2))
theorem EvP.callT (h : EvAP X δ (e :: es) ds) (hc : CallD X (.type T) ds d) (hm : X.mg x = none) (hv : bootBuiltins x = some (.type T) := by decide +kernel) (hg : Gl X x := by rfl) (hn : x ≠ "__name__" := by decide) (hdb : (x == ("__debug__" : Str)) = false := by decide)
    (he : starEach (e :: es) X.env = (false, eval e X.env) :: starEach es X.env := by rfl) (hpl : (backTo pos (starEach es X.env)).any (·.1) = false := by rfl) : EvP X δ (.Call (.Name x p) (e :: es) [] pos) d := fun σ G H m Q q =>
  PE.w (pe_callTy callW hg hm hv paW hn hdb he hpl) (h σ G H m _ fun vs G' H' r w ex => hc G' H' vs Q w r fun z G2 H2 rz w2 ex2 => q z G2 H2 rz w2 (ex.trans ex2))
theorem rpa1 {K : PySem.W.Frag} {G : Hp} {vs : List V} {d : Dat} (r : RpA K G vs [d]) : ∃ v, vs = [v] ∧ Rp K G v d := by
  cases r with
  | cons r t =>
    cases t
    exact ⟨_, rfl, r⟩
theorem rpa2 {K : PySem.W.Frag} {G : Hp} {vs : List V} {d e : Dat} (r : RpA K G vs [d, e]) : ∃ v w, vs = [v, w] ∧ Rp K G v d ∧ Rp K G w e := by
  cases r with
  | cons r t =>
    obtain ⟨w, rfl, q⟩ := rpa1 t
    exact ⟨_, _, rfl, r, q⟩
/-! the built-ins -/
theorem CallD.all (g : Gx X) {bs : List Bool} : CallD X (.builtin "all") [.list (bs.map Dat.bool)] (.bool (bs.all id)) := .ofQ fun G H vs Q w r q => by
  obtain ⟨v, rfl, r1⟩ := rpa1 r
  cases r1 with
  | @lst a xs _ ga ra =>
    have e := ra.bls
    subst e
    exact CallR.w (cr_all g.calm) ⟨a, bs, rfl, SqL.of (w.lstH ga), q _ (.bl _)⟩
theorem CallD.any (g : Gx X) {bs : List Bool} : CallD X (.builtin "any") [.list (bs.map Dat.bool)] (.bool (bs.any id)) := .ofQ fun G H vs Q w r q => by
  obtain ⟨v, rfl, r1⟩ := rpa1 r
  cases r1 with
  | @lst a xs _ ga ra =>
    have e := ra.bls
    subst e
    exact CallR.w (cr_any g.calm) ⟨a, bs, rfl, SqL.of (w.lstH ga), q _ (.bl _)⟩
theorem CallD.sum (g : Gx X) {ns : List Int} : CallD X (.builtin "sum") [.list (ns.map Dat.int)] (.int ns.sum) := .ofQ fun G H vs Q w r q => by
  obtain ⟨v, rfl, r1⟩ := rpa1 r
  cases r1 with
  | @lst a xs _ ga ra =>
    have e := ra.ints
    subst e
    exact CallR.w (cr_sum g.calm) ⟨a, ns, rfl, SqL.of (w.lstH ga), q _ (.int _)⟩
theorem CallD.max (g : Gx X) {ns : List Int} {m : Int} (h1 : m ∈ ns) (h2 : ∀ y ∈ ns, y ≤ m) : CallD X (.builtin "max") [.list (ns.map Dat.int)] (.int m) := .ofQ fun G H vs Q w r q => by
  obtain ⟨v, rfl, r1⟩ := rpa1 r
  cases r1 with
  | @lst a xs _ ga ra =>
    have e := ra.ints
    subst e
    refine CallR.w (cr_max g.calm) ⟨a, ns, rfl, SqL.of (w.lstH ga), List.length_pos_of_mem h1, fun k hk hl => ?_⟩
    have e : k = m := Int.le_antisymm (h2 k hk) (hl m h1)
    rw [e]
    exact q _ (.int _)
theorem CallD.max2 (g : Gx X) {i j : Int} : CallD X (.builtin "max") [.int i, .int j] (.int (Max.max i j)) := .ofQ fun G H vs Q w r q => by
  obtain ⟨v, u, rfl, r1, r2⟩ := rpa2 r
  cases r1; cases r2
  refine CallR.w (call_max2 g.calm) ⟨i, j, rfl, ?_⟩
  have e : (if j > i then j else i) = Max.max i j := by
    split <;> omega
  rw [e]
  exact q _ (.int _)
theorem CallD.min2 (g : Gx X) {i j : Int} : CallD X (.builtin "min") [.int i, .int j] (.int (Min.min i j)) := .ofQ fun G H vs Q w r q => by
  obtain ⟨v, u, rfl, r1, r2⟩ := rpa2 r
  cases r1; cases r2
  refine CallR.w (call_min2 g.calm) ⟨i, j, rfl, ?_⟩
  have e : (if j < i then j else i) = Min.min i j := by
    split <;> omega
  rw [e]
  exact q _ (.int _)
theorem CallD.abs {i : Int} : CallD X (.builtin "abs") [.int i] (.int (if i < 0 then -i else i)) := .ofQ fun G H vs Q w r q => by
  obtain ⟨v, rfl, r1⟩ := rpa1 r
  cases r1
  exact CallR.w call_abs ⟨i, rfl, q _ (.int _)⟩
theorem CallD.intI {i : Int} : CallD X (.type "int") [.int i] (.int i) := .ofQ fun G H vs Q w r q => by
  obtain ⟨v, rfl, r1⟩ := rpa1 r
  cases r1
  exact CallR.w call_int1 (.inl ⟨i, rfl, q _ (.int _)⟩)
theorem CallD.intB {b : Bool} : CallD X (.type "int") [.bool b] (.int (if b then 1 else 0)) := .ofQ fun G H vs Q w r q => by
  obtain ⟨v, rfl, r1⟩ := rpa1 r
  cases r1
  exact CallR.w call_int1 (.inr ⟨b, rfl, q _ (.int _)⟩)
theorem CallD.lenL {as : List Dat} : CallD X (.builtin "len") [.list as] (.int as.length) := .ofQ fun G H vs Q w r q => by
  obtain ⟨v, rfl, r1⟩ := rpa1 r
  cases r1 with
  | @lst a xs _ ga ra =>
    refine CallR.w call_len_seq ⟨a, xs, rfl, .inl (SqL.of (w.lstH ga)), ?_⟩
    rw [ra.length]
    exact q _ (.int _)
theorem CallD.lenT {as : List Dat} : CallD X (.builtin "len") [.tuple as] (.int as.length) := .ofQ fun G H vs Q w r q => by
  obtain ⟨v, rfl, r1⟩ := rpa1 r
  cases r1 with
  | @tup a xs _ ga ra =>
    refine CallR.w call_len_seq ⟨a, xs, rfl, .inr (SqT.of (w.tupH ga)), ?_⟩
    rw [ra.length]
    exact q _ (.int _)
theorem CallD.lenF {as : List Dat} : CallD X (.builtin "len") [.ftup as] (.int as.length) := .ofQ fun G H vs Q w r q => by
  obtain ⟨v, rfl, r1⟩ := rpa1 r
  cases r1 with
  | @ftup a ob xs _ ga hn ra =>
    refine CallR.w call_len_seq ⟨a, xs, rfl, .inr (.inl (w.rd2 (.inr ⟨ob, ga⟩))), ?_⟩
    rw [ra.length]
    exact q _ (.int _)
theorem CallD.lenS {z : Str} (h : z.length ≤ sizeLine) : CallD X (.builtin "len") [.str z] (.int z.length) := .ofQ fun G H vs Q w r q => by
  obtain ⟨v, rfl, r1⟩ := rpa1 r
  cases r1
  exact CallR.w call_len_str ⟨z, rfl, h, q _ (.int _)⟩
theorem CallD.tupL {as : List Dat} : CallD X (.type "tuple") [.list as] (.tuple as) := fun G H vs Q w r q => by
  obtain ⟨v, rfl, r1⟩ := rpa1 r
  cases r1 with
  | @lst a xs _ ga ra =>
    refine CallR.w call_tuple_of ⟨a, xs, rfl, .inl ⟨SqL.of (w.lstH ga), fun l nl => ?_⟩⟩
    have ex := Ext.new (o := .tup xs) w nl
    exact q _ _ _ (.tup upd_same (ra.mono ex.gg)) (w.new nl) ex
theorem CallD.listT {as : List Dat} : CallD X (.type "list") [.tuple as] (.list as) := fun G H vs Q w r q => by
  obtain ⟨v, rfl, r1⟩ := rpa1 r
  cases r1 with
  | @tup a xs _ ga ra =>
    refine CallR.w call_list_of ⟨a, xs, rfl, .inr (SqT.of (w.tupH ga)), fun l nl => ?_⟩
    have ex := Ext.new (o := .lst xs) w nl
    exact q _ _ _ (.lst upd_same (ra.mono ex.gg)) (w.new nl) ex
theorem CallD.listL {as : List Dat} : CallD X (.type "list") [.list as] (.list as) := fun G H vs Q w r q => by
  obtain ⟨v, rfl, r1⟩ := rpa1 r
  cases r1 with
  | @lst a xs _ ga ra =>
    refine CallR.w call_list_of ⟨a, xs, rfl, .inl (SqL.of (w.lstH ga)), fun l nl => ?_⟩
    have ex := Ext.new (o := .lst xs) w nl
    exact q _ _ _ (.lst upd_same (ra.mono ex.gg)) (w.new nl) ex
/-- repr: the one text of the data -/
theorem CallD.repr (g : Gx X) (hs : d.py.showable = true) (hd : d.py.depth ≤ 100) (hz : d.py.shown.length ≤ sizeLine) (hr : ∀ K G v, Rp K G v d → ∃ a, v = V.ref a) : CallD X (.builtin "repr") [d] (.str d.py.shown) := fun G H vs Q w r q pins s σ us I rv => by
  obtain ⟨v, rfl, r1⟩ := rpa1 r
  obtain ⟨a, rfl⟩ := hr _ _ _ r1
  obtain ⟨u, rfl, ru⟩ := vals1 rv
  obtain ⟨as, q1, z⟩ := r1.reads g.sm I w ru
  cases ru
  refine repr_of_reads' q1 hs (fun _ => z) g.gd (by have := g.hu; omega) (fun _ _ e => e) (fun h' u tk hk => ?_) hz
  exact ⟨.str d.py.shown, H, I.kept (t' := tk) hk, ⟨_, rfl⟩, q _ G H (.str _) w (Fr.refl _ _ _)⟩
/-! slices -/
def cutD (xs : List Dat) (lo hi : Option Int) : List Dat := (xs.drop (HT.sIx xs.length 0 lo)).take (HT.sIx xs.length xs.length hi - HT.sIx xs.length 0 lo)
theorem RpA.cut {K : PySem.W.Frag} {G : Hp} {vs : List V} {ds : List Dat} (r : RpA K G vs ds) (lo hi : Option Int) : RpA K G (cutV vs lo hi) (cutD ds lo hi) := by
  unfold cutV cutD
  rw [r.length]
  exact (r.drop _).take _
/-- a part of a slice -/
def EvO (X : Cx) (δ : List Cell) (e : Option Expr) (Ψ : Option Int → List Cell → Prop) : Prop :=
  match e with
  | none => Ψ none δ
  | some e => EvI X δ e fun d δ' => ∃ i, d = .int i ∧ Ψ (some i) δ'
def toPart (X : Cx) : Option Expr → TO
  | none => tNoPart
  | some e => tPart (wpE X e)
theorem po_part : ∀ e : Option Expr, PO X e (toPart X e)
  | none => po_none
  | some _ => po_some peW
theorem EvO.run {e : Option Expr} {Ψ : Option Int → List Cell → Prop} (h : EvO X δ e Ψ) {σ : SS} {G H : Hp} (m : Mt X.K G H σ δ) {Q : Option Int → Hp → Prop} (q : ∀ i δ' G' H', Ψ i δ' → Mt X.K G' H' σ δ' → Fr (feet δ) G H (feet δ') G' H' → Q i H') : toPart X e σ H Q := by
  cases e with
  | none => exact q none δ G H h m (Fr.refl _ _ _)
  | some e =>
    exact h σ G H m _ fun d δ' v G' H' hd m' r f => by
      obtain ⟨i, rfl, hi⟩ := hd
      cases r
      exact ⟨i, rfl, q (some i) δ' G' H' hi m' f⟩
def EvOP (X : Cx) (δ : List Cell) (e : Option Expr) (i : Option Int) : Prop :=
  match e with
  | none => i = none
  | some e => ∃ k, i = some k ∧ EvP X δ e (.int k)
theorem EvOP.none_ : EvOP X δ none none := rfl
theorem EvOP.some_ {k : Int} (h : EvP X δ e (.int k)) : EvOP X δ (some e) (some k) := ⟨k, rfl, h⟩
theorem EvOP.run {e : Option Expr} {i : Option Int} (h : EvOP X δ e i) {σ : SS} {G H : Hp} (m : Mt X.K G H σ δ) {Q : Option Int → Hp → Prop} (q : ∀ G' H', Mt X.K G' H' σ δ → Ext G H G' H' → Q i H') : toPart X e σ H Q := by
  cases e with
  | none =>
    have h : i = none := h
    rw [h] at q
    exact q G H m (Fr.refl _ _ _)
  | some e =>
    obtain ⟨k, rfl, h2⟩ := (show ∃ k, i = some k ∧ EvP X δ e (.int k) from h)
    exact oneP m h2 fun v G' H' m' r f => by
      cases r
      exact ⟨k, rfl, q G' H' m' f⟩
def Sl2 (X : Cx) (d0 : Dat) (lo hi : Option Int) (d : Dat) : Prop := ∀ (G H : Hp) (x : V) (Q : VK), Wd G H → Rp X.K G x d0 → (∀ (z : V) (G' H' : Hp), Rp X.K G' z d → Wd G' H' → Ext G H G' H' → Q z H') →
  ∀ (pins : List (Addr × Obj)) (s : Shared) (σ : SS) (v vl vu : Value) (sl : Addr), Inv X pins σ H s → RelV x v → s.heap.IsSliceOf sl vl vu .none → IsPart vl lo → IsPart vu hi →
    ∃ T fid, typeLookup (.type T) "__getitem__" = pure (some (.builtin fid)) ∧ s.TypeIs v T ∧ wpAny (model X.prog X.w) X.A (getItem v (.ref sl)) (EP X pins σ Q) X.xe s
theorem EvI.slice {a : Expr} {lo hi : Option Expr} {p2 : Pos} (h : EvI X δ a fun d0 δ1 => EvO X δ1 lo fun l δ2 => EvO X δ2 hi fun u δ3 => ∃ d, Sl2 X d0 l u d ∧ Ψ d δ3) : EvI X δ (.Subscript a (.Slice lo hi none p2) pos) Ψ := fun σ G H m Q q => by
  refine PE.w (pe_slice (r := fun x lo hi H Q => ∀ (pins : List (Addr × Obj)) (s : Shared) (σ : SS) (v vl vu : Value) (sl : Addr), Inv X pins σ H s → RelV x v → s.heap.IsSliceOf sl vl vu .none → IsPart vl lo → IsPart vu hi →
    ∃ T fid, typeLookup (.type T) "__getitem__" = pure (some (.builtin fid)) ∧ s.TypeIs v T ∧ wpAny (model X.prog X.w) X.A (getItem v (.ref sl)) (EP X pins σ Q) X.xe s) (fun pins s σ H x v vl vu lo hi sl Q I rx hs pl pu h => h pins s σ v vl vu sl I rx hs pl pu) peW (po_part lo) (po_part hi)) ?_
  refine h σ G H m _ fun d0 δ1 x G1 H1 h1 m1 r1 f1 => ?_
  refine h1.run m1 fun l δ2 G2 H2 h2 m2 f2 => h2.run m2 fun u δ3 G3 H3 h3 m3 f3 => ?_
  obtain ⟨d, hs, hd⟩ := h3
  exact hs G3 H3 x Q m3.wd (r1.mono (f2.gg.trans f3.gg)) fun z G4 H4 rz w ex => q d δ3 z G4 H4 hd (m3.ext ex w) rz (f1.trans (f2.trans (f3.trans (Ext.up ex _))))
theorem EvP.slice {a : Expr} {lo hi : Option Expr} {p2 : Pos} {d0 : Dat} {l u : Option Int} (ha : EvP X δ a d0) (hl : EvOP X δ lo l) (hu : EvOP X δ hi u) (hs : Sl2 X d0 l u d) : EvP X δ (.Subscript a (.Slice lo hi none p2) pos) d := fun σ G H m Q q => by
  refine PE.w (pe_slice (r := fun x lo hi H Q => ∀ (pins : List (Addr × Obj)) (s : Shared) (σ : SS) (v vl vu : Value) (sl : Addr), Inv X pins σ H s → RelV x v → s.heap.IsSliceOf sl vl vu .none → IsPart vl lo → IsPart vu hi →
    ∃ T fid, typeLookup (.type T) "__getitem__" = pure (some (.builtin fid)) ∧ s.TypeIs v T ∧ wpAny (model X.prog X.w) X.A (getItem v (.ref sl)) (EP X pins σ Q) X.xe s) (fun pins s σ H x v vl vu lo hi sl Q I rx hs pl pu h => h pins s σ v vl vu sl I rx hs pl pu) peW (po_part lo) (po_part hi)) ?_
  refine oneP m ha fun x G1 H1 m1 r1 f1 => hl.run m1 fun G2 H2 m2 f2 => hu.run m2 fun G3 H3 m3 f3 => ?_
  exact hs G3 H3 x Q m3.wd (r1.mono (f2.gg.trans f3.gg)) fun z G4 H4 rz w ex => q z G4 H4 rz w (f1.trans (f2.trans (f3.trans ex)))
theorem Sl2.lst {as : List Dat} {lo hi : Option Int} : Sl2 X (.list as) lo hi (.list (cutD as lo hi)) := fun G H x Q w rx q pins s σ v vl vu sl I rv hs pl pu => by
  cases rx with
  | @lst a xs _ ga ra =>
    refine sl_list pins s σ H _ v vl vu lo hi sl Q I rv hs pl pu ⟨a, xs, rfl, SqL.of (w.lstH ga), fun p np => ?_⟩
    have ex := Ext.new (o := .lst (cutV xs lo hi)) w np
    exact q _ _ _ (.lst upd_same ((ra.cut lo hi).mono ex.gg)) (w.new np) ex
theorem Sl2.tup {as : List Dat} {lo hi : Option Int} : Sl2 X (.tuple as) lo hi (.tuple (cutD as lo hi)) := fun G H x Q w rx q pins s σ v vl vu sl I rv hs pl pu => by
  cases rx with
  | @tup a xs _ ga ra =>
    refine sl_tupA pins s σ H _ v vl vu lo hi sl Q I rv hs pl pu ⟨a, xs, rfl, SqT.of (w.tupH ga), fun hw => ?_, fun hw p np => ?_⟩
    · have e : cutD as lo hi = as := by
        unfold cutD
        rw [← ra.length, hw.1, hw.2, List.drop_zero, Nat.sub_zero, ra.length, List.take_length]
      exact q _ G H (by rw [e]; exact .tup ga ra) w (Fr.refl _ _ _)
    · have ex := Ext.new (o := .tup (cutV xs lo hi)) w np
      exact q _ _ _ (.tup upd_same ((ra.cut lo hi).mono ex.gg)) (w.new np) ex
/-- a slice that is not the whole -/
theorem Sl2.ftup {as : List Dat} {lo hi : Option Int} (nw : ¬ (HT.sIx as.length 0 lo = 0 ∧ HT.sIx as.length as.length hi = as.length)) : Sl2 X (.ftup as) lo hi (.tuple (cutD as lo hi)) := fun G H x Q w rx q pins s σ v vl vu sl I rv hs pl pu => by
  cases rx with
  | @ftup a ob xs _ ga hn ra =>
    refine sl_tupA pins s σ H _ v vl vu lo hi sl Q I rv hs pl pu ⟨a, xs, rfl, .inl (w.rd2 (.inr ⟨ob, ga⟩)), fun hw => ?_, fun hw p np => ?_⟩
    · exact absurd (by rw [← ra.length]; exact hw) nw
    · have ex := Ext.new (o := .tup (cutV xs lo hi)) w np
      exact q _ _ _ (.tup upd_same ((ra.cut lo hi).mono ex.gg)) (w.new np) ex
end
end K94
end

/-! text KG -/
section
set_option Elab.async false
set_option linter.all false
set_option maxRecDepth 100000
set_option maxHeartbeats 4000000
set_option autoImplicit true
/-! what is walked; for loops -/
namespace K94
open PySem PySem.Spec PyProof.Rows L2

/-- an iterator that gives these data, while S stands -/
structure WalkD (K : PySem.W.Frag) (J : It) (G0 : Hp) (S : Hp → Prop) (ds : List Dat) : Prop where
  goes : ∀ i G H, i < ds.length → Le G0 G → Wd G H → S H → J.go i H
  stops : ∀ G H, Le G0 G → Wd G H → S H → J.stop ds.length H
  yields : ∀ i G H x H', i < ds.length → Le G0 G → Wd G H → S H → J.yld i H x H' → ∃ d G', ds[i]? = some d ∧ Rp K G' x d ∧ Wd G' H' ∧ Ext G H G' H'
  keeps : ∀ F G H F' G' H', Le G0 G → S H → Fr F G H F' G' H' → (∀ b ∈ F, G b = none) → S H'
abbrev PostW (X : Cx) (F : List Addr) (G H : Hp) (σ : SS) (Ψ : List Dat → List Cell → Prop) (R : It → Hp → Prop) : Prop :=
  ∀ (ds : List Dat) (δ' : List Cell) (J : It) (S : Hp → Prop) (G' H' : Hp), Ψ ds δ' → Mt X.K G' H' σ δ' → Fr F G H (feet δ') G' H' → WalkD X.K J G' S ds → S H' → R J H'
/-- what is walked, by data -/
def EvIt (X : Cx) (δ : List Cell) (tg iter : Expr) (Ψ : List Dat → List Cell → Prop) : Prop :=
  ∀ (σ : SS) (G H : Hp), Mt X.K G H σ δ → ∀ R : It → Hp → Prop, PostW X (feet δ) G H σ Ψ R → wpI X tg iter σ H R
def EvItP (X : Cx) (δ : List Cell) (tg iter : Expr) (ds : List Dat) : Prop :=
  ∀ (σ : SS) (G H : Hp), Mt X.K G H σ δ → ∀ R : It → Hp → Prop, (∀ (J : It) (S : Hp → Prop) (G' H' : Hp), Mt X.K G' H' σ δ → Ext G H G' H' → WalkD X.K J G' S ds → S H' → R J H') → wpI X tg iter σ H R
theorem EvItP.i {X : Cx} {δ : List Cell} {tg iter : Expr} {ds : List Dat} {Ψ : List Dat → List Cell → Prop} (h : EvItP X δ tg iter ds) (k : Ψ ds δ) : EvIt X δ tg iter Ψ := fun σ G H m R q =>
  h σ G H m R fun J S G' H' m' ex w s => q ds δ J S G' H' k m' (Ext.up ex _) w s
section
variable {K : PySem.W.Frag} {G0 : Hp}
theorem walkD_list {a : Addr} {xs : List V} {ds : List Dat} (h : G0 a = some (.lst xs)) (r : RpA K G0 xs ds) : WalkD K (Itl K a) G0 (fun _ => True) ds where
  goes := fun i G H hi l w _ => walk_list.goes i H (by rw [r.length]; exact hi) (SqL.of (w.lstH (l _ _ h)))
  stops := fun G H l w _ => by rw [← r.length]; exact walk_list.stops H (SqL.of (w.lstH (l _ _ h)))
  yields := fun i G H x H' hi l w _ y => by
    obtain ⟨rfl, hx⟩ := walk_list.yields i H x H' (by rw [r.length]; exact hi) (SqL.of (w.lstH (l _ _ h))) y
    obtain ⟨d, h1, h2⟩ := r.get hx
    exact ⟨d, G, h1, h2.mono l, w, Fr.refl _ _ _⟩
  keeps := fun _ _ _ _ _ _ _ _ _ _ => trivial
theorem walkD_tup {a : Addr} {xs : List V} {ds : List Dat} (h : G0 a = some (.tup xs)) (r : RpA K G0 xs ds) : WalkD K (Itt K a) G0 (fun _ => True) ds where
  goes := fun i G H hi l w _ => walk_tup.goes i H (by rw [r.length]; exact hi) (SqT.of (w.tupH (l _ _ h)))
  stops := fun G H l w _ => by rw [← r.length]; exact walk_tup.stops H (SqT.of (w.tupH (l _ _ h)))
  yields := fun i G H x H' hi l w _ y => by
    obtain ⟨rfl, hx⟩ := walk_tup.yields i H x H' (by rw [r.length]; exact hi) (SqT.of (w.tupH (l _ _ h))) y
    obtain ⟨d, h1, h2⟩ := r.get hx
    exact ⟨d, G, h1, h2.mono l, w, Fr.refl _ _ _⟩
  keeps := fun _ _ _ _ _ _ _ _ _ _ => trivial
theorem walkD_ftup {a : Addr} {ob : Obj} {xs : List V} {ds : List Dat} (h : G0 a = some (.frz ob (.tup xs))) (r : RpA K G0 xs ds) : WalkD K (Itt K a) G0 (fun _ => True) ds where
  goes := fun i G H hi l w _ => walk_tup.goes i H (by rw [r.length]; exact hi) (.inl (w.rd2 (.inr ⟨ob, l _ _ h⟩)))
  stops := fun G H l w _ => by rw [← r.length]; exact walk_tup.stops H (.inl (w.rd2 (.inr ⟨ob, l _ _ h⟩)))
  yields := fun i G H x H' hi l w _ y => by
    obtain ⟨rfl, hx⟩ := walk_tup.yields i H x H' (by rw [r.length]; exact hi) (.inl (w.rd2 (.inr ⟨ob, l _ _ h⟩))) y
    obtain ⟨d, h1, h2⟩ := r.get hx
    exact ⟨d, G, h1, h2.mono l, w, Fr.refl _ _ _⟩
  keeps := fun _ _ _ _ _ _ _ _ _ _ => trivial
def rangeD (lo : Int) (n : Nat) : List Dat := (List.range n).map fun (i : Nat) => Dat.int (lo + i)
theorem rangeD_get {lo : Int} {n i : Nat} (h : i < n) : (rangeD lo n)[i]? = some (.int (lo + i)) := by
  unfold rangeD
  rw [List.getElem?_map, List.getElem?_range h]
  rfl
theorem rangeD_length {lo : Int} {n : Nat} : (rangeD lo n).length = n := by
  unfold rangeD
  rw [List.length_map, List.length_range]
theorem walkD_range {lo : Int} {n : Nat} : WalkD K (Itr lo n) G0 (fun _ => True) (rangeD lo n) where
  goes := fun i G H hi l w _ => by rw [rangeD_length] at hi; exact hi
  stops := fun G H l w _ => by rw [rangeD_length]; exact Nat.le_refl _
  yields := fun i G H x H' hi l w _ y => by
    rw [rangeD_length] at hi
    obtain ⟨rfl, rfl⟩ := y
    exact ⟨_, G, rangeD_get hi, .int _, w, Fr.refl _ _ _⟩
  keeps := fun _ _ _ _ _ _ _ _ _ _ => trivial
theorem walkD_str {z : Str} : WalkD K (Its z) G0 (fun _ => True) (z.cps.toList.map fun c => Dat.str ⟨#[c]⟩) where
  goes := fun i G H hi l w _ => by rw [List.length_map, Array.length_toList] at hi; exact hi
  stops := fun G H l w _ => by rw [List.length_map, Array.length_toList]; exact Nat.le_refl _
  yields := fun i G H x H' hi l w _ y => by
    obtain ⟨rfl, c, hc, rfl⟩ := y
    refine ⟨_, G, ?_, .str _, w, Fr.refl _ _ _⟩
    rw [List.getElem?_map, Array.getElem?_toList, hc]
    rfl
  keeps := fun _ _ _ _ _ _ _ _ _ _ => trivial
theorem pairGoes {xs ys : Nat → Option V} {i : Nat} {H H' : Hp} {v : V} {G : Hp} {d1 d2 : Dat} (w : Wd G H) (y : YPair xs ys i H v H') (h1 : ∀ x, xs i = some x → Rp K G x d1) (h2 : ∀ x, ys i = some x → Rp K G x d2) :
    ∃ G', Rp K G' v (.tuple [d1, d2]) ∧ Wd G' H' ∧ Ext G H G' H' := by
  obtain ⟨T, x, y', rfl, nT, rfl, e1, e2⟩ := y
  have ex := Ext.new (o := .tup [x, y']) w nT
  exact ⟨_, .tup upd_same (.cons ((h1 x e1).mono ex.gg) (.cons ((h2 y' e2).mono ex.gg) .nil)), w.new nT, ex⟩
def enumD (ds : List Dat) : List Dat := (List.range ds.length).map fun (i : Nat) => Dat.tuple [.int i, ds.getD i .none]
theorem enumD_get {ds : List Dat} {i : Nat} {d : Dat} (h : ds[i]? = some d) : (enumD ds)[i]? = some (.tuple [.int i, d]) := by
  unfold enumD
  have hi := (List.getElem?_eq_some_iff.mp h).1
  rw [List.getElem?_map, List.getElem?_range hi]
  simp [List.getD_eq_getElem?_getD, h]
theorem enumD_length {ds : List Dat} : (enumD ds).length = ds.length := by
  unfold enumD
  rw [List.length_map, List.length_range]
theorem walkD_enum {a : Addr} {xs : List V} {ds : List Dat} (h : G0 a = some (.lst xs)) (r : RpA K G0 xs ds) : WalkD K (Ite K a) G0 (fun _ => True) (enumD ds) where
  goes := fun i G H hi l w _ => walk_enum.goes i H (by rw [enumD_length] at hi; rw [r.length]; exact hi) (SqL.of (w.lstH (l _ _ h)))
  stops := fun G H l w _ => by rw [enumD_length, ← r.length]; exact walk_enum.stops H (SqL.of (w.lstH (l _ _ h)))
  yields := fun i G H x H' hi l w _ y => by
    rw [enumD_length] at hi
    have q := walk_enum.yields i H x H' (by rw [r.length]; exact hi) (SqL.of (w.lstH (l _ _ h))) y
    have hd : ds[i]? = some ds[i] := List.getElem?_eq_getElem hi
    obtain ⟨G', h1, h2, h3⟩ := pairGoes (K := K) (d1 := .int i) (d2 := ds[i]) w q (fun x e => by cases e; exact .int _) (fun x e => by
      obtain ⟨d, g1, g2⟩ := r.get e
      rw [hd] at g1
      cases g1
      exact g2.mono l)
    exact ⟨_, G', enumD_get hd, h1, h2, h3⟩
  keeps := fun _ _ _ _ _ _ _ _ _ _ => trivial
theorem walkD_keys {d : Addr} {o : Obj} {kvs : List (L2.Key × V)} {ds : List (Dat × Dat)} (r : RpK K G0 kvs ds) (g : G0 d = some (.dK kvs)) : WalkD K (Itk d o kvs) G0 (fun H => H d = some (.frz o (.dK kvs))) (ds.map (·.1)) where
  goes := fun i G H hi l w q => ⟨q, by rw [r.keys, List.length_map, List.length_map] at hi; exact hi⟩
  stops := fun G H l w q => ⟨q, by rw [r.keys, List.length_map, List.length_map]; exact Nat.le_refl _⟩
  yields := fun i G H x H' hi l w q y => by
    obtain ⟨rfl, k, v, hk, rfl⟩ := y
    refine ⟨kD k, G, ?_, ?_, w, Fr.refl _ _ _⟩
    · rw [r.keys, List.getElem?_map, List.getElem?_map, hk]
      rfl
    · cases k with
      | inl i => exact .int i
      | inr x => exact .str x
  keeps := fun F G H F' G' H' l q f n => f.hh d _ q fun hm => by
    have z := n d hm
    rw [l _ _ g] at z
    cases z
theorem rpKeys {K : PySem.W.Frag} {G : Hp} : ∀ ks : List L2.Key, RpA K G (ks.map kV) (ks.map kD)
  | [] => .nil
  | .inl i :: ks => .cons (.int i) (rpKeys ks)
  | .inr i :: ks => .cons (.str i) (rpKeys ks)
theorem walkD_keysT {d : Addr} {o : Obj} {kvs : List (List L2.Key × V)} {ds : List (Dat × Dat)} (r : RpT K G0 kvs ds) (g : G0 d = some (.dT kvs)) : WalkD K (Itkt d o kvs) G0 (fun H => H d = some (.frz o (.dT kvs))) (ds.map (·.1)) where
  goes := fun i G H hi l w q => ⟨q, by rw [r.keys, List.length_map, List.length_map] at hi; exact hi⟩
  stops := fun G H l w q => ⟨q, by rw [r.keys, List.length_map, List.length_map]; exact Nat.le_refl _⟩
  yields := fun i G H x H' hi l w q y => by
    obtain ⟨rfl, k, v, p, hk, rfl, hp⟩ := y
    refine ⟨tK k, G, ?_, .tup (w.tup _ _ hp) (rpKeys k), w, Fr.refl _ _ _⟩
    rw [r.keys, List.getElem?_map, List.getElem?_map, hk]
    rfl
  keeps := fun F G H F' G' H' l q f n => f.hh d _ q fun hm => by
    have z := n d hm
    rw [l _ _ g] at z
    cases z
end
section
variable {X : Cx} {δ : List Cell} {tg e : Expr} {ds : List Dat} {Ψ : List Dat → List Cell → Prop} {p pos : Pos}
theorem EvIt.list (h : EvI X δ e fun d δ' => ∃ ds, d = .list ds ∧ Ψ ds δ') : EvIt X δ tg e Ψ := fun σ G H m R q =>
  PI.w (pi_list peW) (h σ G H m _ fun d δ' v G' H' hd m' r f => by
    obtain ⟨ds, rfl, hd⟩ := hd
    cases r with
    | lst ga ra => exact ⟨_, rfl, ⟨_, SqL.of (m'.wd.lstH ga)⟩, q ds δ' _ _ G' H' hd m' f (walkD_list ga ra) trivial⟩)
theorem EvIt.tup (h : EvI X δ e fun d δ' => ∃ ds, d = .tuple ds ∧ Ψ ds δ') : EvIt X δ tg e Ψ := fun σ G H m R q =>
  PI.w (pi_tup peW) (h σ G H m _ fun d δ' v G' H' hd m' r f => by
    obtain ⟨ds, rfl, hd⟩ := hd
    cases r with
    | tup ga ra => exact ⟨_, rfl, ⟨_, SqT.of (m'.wd.tupH ga)⟩, q ds δ' _ _ G' H' hd m' f (walkD_tup ga ra) trivial⟩)
theorem EvItP.list (h : EvP X δ e (.list ds)) : EvItP X δ tg e ds := fun σ G H m R q =>
  PI.w (pi_list peW) (oneP m h fun x G2 H2 m2 r f => by
    cases r with
    | lst ga ra => exact ⟨_, rfl, ⟨_, SqL.of (m2.wd.lstH ga)⟩, q _ _ G2 H2 m2 f (walkD_list ga ra) trivial⟩)
theorem EvItP.tup (h : EvP X δ e (.tuple ds)) : EvItP X δ tg e ds := fun σ G H m R q =>
  PI.w (pi_tup peW) (oneP m h fun x G2 H2 m2 r f => by
    cases r with
    | tup ga ra => exact ⟨_, rfl, ⟨_, SqT.of (m2.wd.tupH ga)⟩, q _ _ G2 H2 m2 f (walkD_tup ga ra) trivial⟩)
theorem EvItP.ftup (h : EvP X δ e (.ftup ds)) : EvItP X δ tg e ds := fun σ G H m R q =>
  PI.w (pi_tup peW) (oneP m h fun x G2 H2 m2 r f => by
    cases r with
    | @ftup a ob xs _ ga hn ra => exact ⟨a, rfl, ⟨xs, .inl (m2.wd.rd2 (.inr ⟨ob, ga⟩))⟩, q _ _ G2 H2 m2 f (walkD_ftup ga ra) trivial⟩)
theorem EvItP.range1 {n : Nat} (h : EvP X δ e (.int n)) (hn : n < 2 ^ 62) (hm : X.mg "range" = none) (hg : Gl X "range" := by rfl) (hs : starEach [e] X.env = [(false, eval e X.env)] := by rfl) : EvItP X δ tg (.Call (.Name "range" p) [e] [] pos) (rangeD 0 n) := fun σ G H m R q => by
  refine PI.w (pi_range1 hg hm (pa_cons peW pa_nil (by rw [hs]; rfl)) hs) (oneP m h fun x G2 H2 m2 r f => ?_)
  cases r
  exact ⟨n, rfl, by omega, by omega, q _ _ G2 H2 m2 f (walkD_range (lo := 0) (n := n)) trivial⟩
theorem EvItP.str {z : Str} (h : EvP X δ e (.str z)) : EvItP X δ tg e (z.cps.toList.map fun c => Dat.str ⟨#[c]⟩) := fun σ G H m R q =>
  PI.w (pi_str peW) (oneP m h fun x G2 H2 m2 r f => by
    cases r
    exact ⟨z, rfl, q _ _ G2 H2 m2 f walkD_str trivial⟩)
theorem EvIt.range1 (h : EvI X δ e fun d δ' => ∃ n : Nat, d = .int n ∧ n < 2 ^ 62 ∧ Ψ (rangeD 0 n) δ') (hm : X.mg "range" = none) (hg : Gl X "range" := by rfl) (hs : starEach [e] X.env = [(false, eval e X.env)] := by rfl) : EvIt X δ tg (.Call (.Name "range" p) [e] [] pos) Ψ := fun σ G H m R q => by
  refine PI.w (pi_range1 hg hm (pa_cons peW pa_nil (by rw [hs]; rfl)) hs) (h σ G H m _ fun d δ' v G' H' hd m' r f => ?_)
  obtain ⟨n, rfl, hn, hd⟩ := hd
  cases r
  refine ⟨n, rfl, by omega, by omega, ?_⟩
  have e : ((n : Int) - 0).toNat = n := by omega
  have q2 := q _ δ' _ _ G' H' hd m' f (walkD_range (G0 := G') (lo := 0) (n := n)) trivial
  exact q2
theorem EvIt.range2 {e2 : Expr} (h : EvI X δ e fun d δ1 => EvI X δ1 e2 fun d2 δ2 => ∃ lo hi : Int, d = .int lo ∧ d2 = .int hi ∧ -(2 ^ 62) ≤ lo ∧ lo < 2 ^ 62 ∧ -(2 ^ 62) ≤ hi ∧ hi < 2 ^ 62 ∧ Ψ (rangeD lo (hi - lo).toNat) δ2) (hm : X.mg "range" = none) (hg : Gl X "range" := by rfl)
    (hs : starEach [e, e2] X.env = [(false, eval e X.env), (false, eval e2 X.env)] := by rfl) (hs2 : starEach [e2] X.env = [(false, eval e2 X.env)] := by rfl) : EvIt X δ tg (.Call (.Name "range" p) [e, e2] [] pos) Ψ := fun σ G H m R q => by
  refine PI.w (pi_range2 hg hm (pa_cons peW (pa_cons peW pa_nil (by rw [hs2]; rfl)) (by rw [hs, hs2])) hs hs2) (two (Q := _) m h fun d1 d2 δ2 x y G2 H2 hc m2 r1 r2 f2 => ?_)
  obtain ⟨lo, hi, rfl, rfl, h1, h2, h3, h4, hd⟩ := hc
  cases r1; cases r2
  exact ⟨lo, hi, rfl, ⟨h1, h2, h3, h4⟩, q _ δ2 _ _ G2 H2 hd m2 f2 walkD_range trivial⟩
theorem EvItP.enumL {elts : List Expr} {kk : Nat} {tpos : Pos} (h : EvP X δ e (.list ds)) (hm : X.mg "enumerate" = none) (hg : Gl X "enumerate" := by rfl) (hs : starEach [e] X.env = [(false, eval e X.env)] := by rfl) :
    EvItP X δ (.Tuple elts kk tpos) (.Call (.Name "enumerate" p) [e] [] pos) (enumD ds) := fun σ G H m R q => by
  refine PI.w (pi_enum hg hm (pa_cons peW pa_nil (by rw [hs]; rfl)) hs) (oneP m h fun x G2 H2 m2 r f => ?_)
  cases r with
  | lst ga ra => exact ⟨_, _, rfl, SqL.of (m2.wd.lstH ga), q _ _ G2 H2 m2 f (walkD_enum ga ra) trivial⟩
end
end K94
end

/-! text KH -/
section
set_option Elab.async false
set_option linter.all false
set_option maxRecDepth 100000
set_option maxHeartbeats 4000000
set_option autoImplicit true
/-! statements; for, while -/
namespace K94
open PySem PySem.Spec PyProof.Rows L2
theorem po_of {X : Cx} {R : Value → Shared → Prop} {E1 : Value → Shared → Prop} (hx : X.xe = fun e s' => wpAny (model X.prog X.w) X.A (leaving X.env e) (fun _ s'' => R e s'') E1 s') : PassesOwn (model X.prog X.w) X.A X.env X.xe := by
  rw [hx]
  exact PassesOwn.leaving

section
variable {X : Cx} {δ : List Cell} {tg iter e : Expr} {body : List Stmt} {st : Stmt} {ss : List Stmt} {Φ : Out → Prop} {pos : Pos}
/-- behind a loop's turn -/
def turnPost (Φ : Out → Prop) (I : List Cell → Prop) : Out → Prop
  | .nx δ => I δ
  | .ct δ => I δ
  | .bk δ => Φ (.nx δ)
  | .rt r δ => Φ (.rt r δ)
/-- a loop by its invariant -/
def ForInv (X : Cx) (tg : Expr) (body : List Stmt) (Φ : Out → Prop) (ds : List Dat) (I : Nat → List Cell → Prop) : Prop :=
  (∀ i d δ', ds[i]? = some d → I i δ' → ∃ δ2, AsD X δ' tg d δ2 ∧ Run X δ2 body (turnPost Φ (I (i + 1)))) ∧ ∀ δ', I ds.length δ' → Φ (.nx δ')
theorem forW {J : It} {S : Hp → Prop} {ds : List Dat} {F : List Addr} {G0 H0 G1 H1 : Hp} {σ1 : SS} {D : Ends} (m : Mt X.K G1 H1 σ1 δ) (w : WalkD X.K J G1 S ds) (s1 : S H1) (I : Nat → List Cell → Prop) (h0 : I 0 δ) (fi : ForInv X tg body Φ ds I)
    (post : RunPost X.K F G0 H0 Φ D) (f0 : Fr F G0 H0 (feet δ) G1 H1) :
    ∃ W : Nat → Nat → SS → Hp → Prop, (∃ m, W 0 m σ1 H1) ∧ ∀ i m σ H, W i m σ H →
      (J.stop i H ∧ D.nx σ H) ∨ (J.go i H ∧ ∃ N : SS → Hp → Prop, (∀ σ' H', N σ' H' → ∃ m', m' < m ∧ W (i + 1) m' σ' H') ∧ ∀ x H', J.yld i H x H' → wpG X tg x σ H' fun σ2 H2 => wpSs X body σ2 H2 { D with nx := N, ct := N, bk := D.nx }) := by
  refine ⟨fun i k σ H => k = ds.length - i ∧ i ≤ ds.length ∧ ∃ G δ', Mt X.K G H σ δ' ∧ I i δ' ∧ Fr (feet δ) G1 H1 (feet δ') G H ∧ S H, ⟨_, rfl, Nat.zero_le _, G1, δ, m, h0, Fr.refl _ _ _, s1⟩, ?_⟩
  rintro i k σ H ⟨rfl, hi, G, δ', mt, hI, fr, hS⟩
  by_cases hlt : i < ds.length
  · refine .inr ⟨w.goes i G H hlt fr.gg mt.wd hS, fun σ' H' => i + 1 ≤ ds.length ∧ ∃ G' δ'', Mt X.K G' H' σ' δ'' ∧ I (i + 1) δ'' ∧ Fr (feet δ) G1 H1 (feet δ'') G' H' ∧ S H', fun σ' H' h => ⟨ds.length - (i + 1), by omega, rfl, h.1, h.2⟩, fun x H' y => ?_⟩
    obtain ⟨d, G', hd, rx, wd', ex⟩ := w.yields i G H x H' hlt fr.gg mt.wd hS y
    have mt' := mt.ext ex wd'
    have fr' := fr.trans (Ext.up ex (feet δ'))
    have none_ : ∀ b ∈ feet δ', G b = none := mt.none
    have hS' : S H' := w.keeps _ G H _ G' H' fr.gg hS (Ext.up ex (feet δ')) none_
    obtain ⟨δ2, has, hrun⟩ := fi.1 i d δ' hd hI
    refine has.2 σ G' H' x mt' rx _ fun σ2 m2 => ?_
    refine hrun σ2 G' H' m2 _ ?_
    have fr2 : Fr (feet δ) G1 H1 (feet δ2) G' H' := fr'.less has.1
    have k : ∀ {F3 : List Addr} {G3 H3 : Hp}, Fr (feet δ2) G' H' F3 G3 H3 → Fr F G0 H0 F3 G3 H3 := fun f3 => f0.trans (fr2.trans f3)
    have again : ∀ (δ3 : List Cell) (σ3 : SS) (G3 H3 : Hp), I (i + 1) δ3 → Mt X.K G3 H3 σ3 δ3 → Fr (feet δ2) G' H' (feet δ3) G3 H3 → i + 1 ≤ ds.length ∧ ∃ G'' δ'', Mt X.K G'' H3 σ3 δ'' ∧ I (i + 1) δ'' ∧ Fr (feet δ) G1 H1 (feet δ'') G'' H3 ∧ S H3 := fun δ3 σ3 G3 H3 h3 m3 f3 =>
      ⟨hlt, G3, δ3, m3, h3, fr2.trans f3, w.keeps _ G' H' _ G3 H3 (fr.gg.trans ex.gg) hS' f3 m2.none⟩
    exact ⟨fun δ3 σ3 G3 H3 h3 m3 f3 => again δ3 σ3 G3 H3 h3 m3 f3, fun δ3 σ3 G3 H3 h3 m3 f3 => post.nx δ3 σ3 G3 H3 h3 m3 (k f3), fun δ3 σ3 G3 H3 h3 m3 f3 => again δ3 σ3 G3 H3 h3 m3 f3, fun r δ3 v σ3 G3 H3 h3 m3 f3 => post.rt r δ3 v σ3 G3 H3 h3 m3 (k f3)⟩
  · have e : i = ds.length := by omega
    subst e
    exact .inl ⟨w.stops G H fr.gg mt.wd hS, post.nx δ' σ G H (fi.2 δ' hI) mt (f0.trans fr)⟩
theorem RunS.for_ (h : EvIt X δ tg iter fun ds δ1 => ∃ I : Nat → List Cell → Prop, I 0 δ1 ∧ ForInv X tg body Φ ds I) (hc : X.calm = true) (hp : PassesOwn (model X.prog X.w) X.A X.env X.xe := by first | exact PassesOwn.never | exact po_of rfl) (hs : ∀ x, foldedSetIterable iter X.env x = pure x := by intro _; rfl) :
    RunS X δ (.For tg iter body [] pos) Φ := fun σ G H m D post => by
  refine PS.w (ps_for hp hc piW pgW pssW hs) (h σ G H m _ fun ds δ1 J S G1 H1 hI m1 f1 w s1 => ?_)
  obtain ⟨I, h0, fi⟩ := hI
  exact forW m1 w s1 I h0 fi post f1
/-! one after another -/
def seqPost (X : Cx) (ss : List Stmt) (Φ : Out → Prop) : Out → Prop
  | .nx δ => Run X δ ss Φ
  | o => Φ o
theorem RunPost.seq {K : PySem.W.Frag} {F : List Addr} {G H G' H' : Hp} {D : Ends} (p : RunPost K F G H Φ D) {F' : List Addr} (f : Fr F G H F' G' H') : RunPost K F' G' H' Φ D :=
  ⟨fun δ' σ' G2 H2 h m f2 => p.nx δ' σ' G2 H2 h m (f.trans f2), fun δ' σ' G2 H2 h m f2 => p.bk δ' σ' G2 H2 h m (f.trans f2), fun δ' σ' G2 H2 h m f2 => p.ct δ' σ' G2 H2 h m (f.trans f2), fun r δ' v σ' G2 H2 h m f2 => p.rt r δ' v σ' G2 H2 h m (f.trans f2)⟩
theorem Run.nil (h : Φ (.nx δ)) : Run X δ [] Φ := fun σ G H m D p => PSs.w pss_nil (p.nx δ σ G H h m (Fr.refl _ _ _))
theorem Run.cons (h : RunS X δ st (seqPost X ss Φ)) : Run X δ (st :: ss) Φ := fun σ G H m D p => by
  refine PSs.w (pss_cons psW pssW) (h σ G H m _ ⟨fun δ' σ' G' H' hn m' f => ?_, fun δ' σ' G' H' hn m' f => p.bk δ' σ' G' H' hn m' f, fun δ' σ' G' H' hn m' f => p.ct δ' σ' G' H' hn m' f, fun r δ' v σ' G' H' hn m' f => p.rt r δ' v σ' G' H' hn m' f⟩)
  exact hn σ' G' H' m' D (p.seq f)
theorem Run.one (h : RunS X δ st Φ) : Run X δ [st] Φ := fun σ G H m D p => PSs.w (pss_one psW) (h σ G H m D p)
theorem Run.mono {Φ' : Out → Prop} (h : Run X δ ss Φ') (k : ∀ o, Φ' o → Φ o) : Run X δ ss Φ := fun σ G H m D p =>
  h σ G H m D ⟨fun δ' σ' G' H' q => p.nx δ' σ' G' H' (k _ q), fun δ' σ' G' H' q => p.bk δ' σ' G' H' (k _ q), fun δ' σ' G' H' q => p.ct δ' σ' G' H' (k _ q), fun r δ' v σ' G' H' q => p.rt r δ' v σ' G' H' (k _ q)⟩
/-! small statements -/
theorem RunS.ret (h : Ev X δ e fun r δ1 => Φ (.rt r δ1)) : RunS X δ (.Return (some e) pos) Φ := fun σ G H m D p =>
  PS.w (ps_ret peW) (h σ G H m _ fun r δ1 v G1 H1 hr m1 f1 => p.rt r δ1 v σ G1 H1 hr m1 f1)
theorem RunS.retI (h : EvI X δ e fun d δ1 => Φ (.rt (.im d) δ1)) : RunS X δ (.Return (some e) pos) Φ := .ret (h.ev fun _ _ k => k)
theorem RunS.retP {d : Dat} (h : EvP X δ e d) (k : Φ (.rt (.im d) δ)) : RunS X δ (.Return (some e) pos) Φ := .retI (h.i k)
theorem RunS.retN (h : Φ (.rt (.im .none) δ)) : RunS X δ (.Return none pos) Φ := fun σ G H m D p =>
  PS.w ps_retN (p.rt (.im .none) δ .non σ G H h (m.im .non) (by rw [feet_im]; exact Fr.refl _ _ _))
theorem RunS.expr (h : Ev X δ e fun _ δ1 => Φ (.nx δ1)) (hs : swapsWith e none pos.line X.env = pure false := by rfl) : RunS X δ (.Expr e pos) Φ := fun σ G H m D p =>
  PS.w (ps_expr peW hs) (h σ G H m _ fun r δ1 v G1 H1 hr m1 f1 => p.nx δ1 σ G1 H1 hr m1.tail (f1.less fun b hb => by rw [feet_cons]; exact List.mem_append_right _ hb))
theorem RunS.if_ {c : Expr} {a b : List Stmt} (h : EvT X δ c fun k δ1 => if k = true then Run X δ1 a Φ else Run X δ1 b Φ) : RunS X δ (.If c a b pos) Φ := fun σ G H m D p =>
  PS.w (ps_if ptW pssW pssW) (h σ G H m _ fun k δ1 G1 H1 hk m1 f1 => by
    cases k with
    | true =>
      rw [if_pos rfl] at hk ⊢
      exact hk σ G1 H1 m1 D (p.seq f1)
    | false =>
      rw [if_neg Bool.false_ne_true] at hk ⊢
      exact hk σ G1 H1 m1 D (p.seq f1))
theorem RunS.pass (h : Φ (.nx δ)) : RunS X δ (.Pass pos) Φ := fun σ G H m D p => PS.w ps_pass (p.nx δ σ G H h m (Fr.refl _ _ _))
theorem RunS.brk (h : Φ (.bk δ)) : RunS X δ (.Break pos) Φ := fun σ G H m D p => PS.w ps_break (p.bk δ σ G H h m (Fr.refl _ _ _))
/-- name = value -/
theorem RunS.set {i : Nat} {x : Str} {pos' : Pos} (h : Ev X δ e fun r δ1 => Φ (.nx (δ1.set i r))) (hN : X.N.Nodup) (hi : X.N[i]? = some x := by rfl) (hx : Loc X.env.scope x := by first | exact Or.inl rfl | exact Or.inr rfl)
    (hs : swapsWith e (some (.Name x pos')) pos.line X.env = pure false := by rfl) (hf : X.fn x = true ∨ X.env.scope.names.lookup x = some .local := by first | exact .inl rfl | exact .inr rfl) : RunS X δ (.Assign [.Name x pos'] e pos) Φ := fun σ G H m D p =>
  PS.w (ps_set hN hi hx peW hs hf) (h σ G H m _ fun r δ1 v G1 H1 hr m1 f1 => p.nx _ _ G1 H1 hr (m1.put i) (f1.less fun b hb => by
    rw [feet_cons]
    rcases feet_set hb with z | z
    · exact List.mem_append_right _ z
    · exact List.mem_append_left _ z))
theorem RunS.setP {i : Nat} {x : Str} {pos' : Pos} {d : Dat} (h : EvP X δ e d) (k : Φ (.nx (δ.set i (.im d)))) (hN : X.N.Nodup) (hi : X.N[i]? = some x := by rfl) (hx : Loc X.env.scope x := by first | exact Or.inl rfl | exact Or.inr rfl)
    (hs : swapsWith e (some (.Name x pos')) pos.line X.env = pure false := by rfl) (hf : X.fn x = true ∨ X.env.scope.names.lookup x = some .local := by first | exact .inl rfl | exact .inr rfl) : RunS X δ (.Assign [.Name x pos'] e pos) Φ := .set (h.ev k) hN hi hx hs hf
/-! targets -/
theorem AsD.name {i : Nat} {x : Str} {d : Dat} (hN : X.N.Nodup) (hi : X.N[i]? = some x := by rfl) (hx : Loc X.env.scope x := by first | exact Or.inl rfl | exact Or.inr rfl) (hf : X.fn x = true ∨ X.env.scope.names.lookup x = some .local := by first | exact .inl rfl | exact .inr rfl) :
    AsD X δ (.Name x pos) d (δ.set i (.im d)) := ⟨fun b hb => (feet_set hb).resolve_right fun z => absurd (show b ∈ ([] : List Addr) from z) List.not_mem_nil, fun σ G H v m r Q q => PG.w (pg_name hN hi hx hf) (q _ ((m.im r).put i))⟩
theorem AsD.pair {i j : Nat} {x y : Str} {d1 d2 : Dat} {kk : Nat} {p1 p2 : Pos} (hc : X.calm = true) (hN : X.N.Nodup) (hi : X.N[i]? = some x := by rfl) (hj : X.N[j]? = some y := by rfl) (hx : Loc X.env.scope x := by first | exact Or.inl rfl | exact Or.inr rfl) (hy : Loc X.env.scope y := by first | exact Or.inl rfl | exact Or.inr rfl)
    (hf : X.fn x = true ∨ X.env.scope.names.lookup x = some .local := by first | exact .inl rfl | exact .inr rfl) (hf2 : X.fn y = true ∨ X.env.scope.names.lookup y = some .local := by first | exact .inl rfl | exact .inr rfl)
    (hs : (assignEach [.Name x p1, .Name y p2] X.env).map (·.2) = assign (.Name x p1) X.env :: (assignEach [.Name y p2] X.env).map (·.2) := by rfl) (hs2 : (assignEach [.Name y p2] X.env).map (·.2) = assign (.Name y p2) X.env :: (assignEach [] X.env).map (·.2) := by rfl)
    (hn : (assignEach [.Name x p1, .Name y p2] X.env).length = 2 := by rfl) (hst : (assignEach [.Name x p1, .Name y p2] X.env).findIdx? (·.1) = none := by rfl) :
    AsD X δ (.Tuple [.Name x p1, .Name y p2] kk pos) (.tuple [d1, d2]) ((δ.set i (.im d1)).set j (.im d2)) := by
  have none_ : ∀ {l : List Cell} {i : Nat} {d : Dat} (b : Addr), b ∈ feet (l.set i (.im d)) → b ∈ feet l := fun b hb => (feet_set hb).resolve_right fun z => absurd (show b ∈ ([] : List Addr) from z) List.not_mem_nil
  refine ⟨fun b hb => none_ b (none_ b hb), fun σ G H v m r Q q => ?_⟩
  cases r with
  | tup ga ra =>
    obtain ⟨v1, v2, rfl, r1, r2⟩ := rpa2 ra
    refine PG.w (pg_tup hc (pgs_cons (pg_name hN hi hx hf) (pgs_cons (pg_name hN hj hy hf2) pgs_nil hs2) hs) hn hst) ⟨_, _, rfl, SqT.of (m.wd.tupH ga), rfl, v1, [v2], rfl, v2, [], rfl, rfl, ?_⟩
    exact q _ ((((m.im r1).put i).im r2).put j)
end
end K94
end

/-! text KI -/
section
set_option Elab.async false
set_option linter.all false
set_option maxRecDepth 100000
set_option maxHeartbeats 4000000
set_option autoImplicit true
/-! one's own objects: made, read, changed, given away -/
namespace K94
open PySem PySem.Spec PyProof.Rows L2

section
variable {K : PySem.W.Frag} {G H G' H' : Hp} {σ : SS} {δ : List Cell}
theorem pwGet {l : List Cell} (h : l.Pairwise Apart) : ∀ {i j : Nat} {c c' : Cell}, l[i]? = some c → l[j]? = some c' → i ≠ j → Apart c c' := by
  induction l with
  | nil => intro i j c c' hi; simp at hi
  | cons x l ih =>
    obtain ⟨h1, h2⟩ := List.pairwise_cons.mp h
    intro i j c c' hi hj ne
    cases i with
    | zero =>
      cases j with
      | zero => exact absurd rfl ne
      | succ j =>
        have e : x = c := by simpa using hi
        subst e
        exact h1 _ (List.mem_of_getElem? (by simpa using hj))
    | succ i =>
      cases j with
      | zero =>
        have e : x = c' := by simpa using hj
        subst e
        exact (h1 _ (List.mem_of_getElem? (by simpa using hi))).symm
      | succ j => exact ih h2 (by simpa using hi) (by simpa using hj) fun e => ne (by rw [e])
theorem pairedIdx {F F' : Option V → Cell → Prop} : ∀ {σ : SS} {δ : List Cell}, Paired F σ δ → ∀ (i : Nat) (c : Cell), (∀ v, σ[i]? = some v → F' v c) → (∀ (j : Nat) v c', j ≠ i → σ[j]? = some v → δ[j]? = some c' → F v c' → F' v c') → Paired F' σ (δ.set i c)
  | _, _, .nil, _, _, _, _ => .nil
  | _, _, .cons r t, 0, c, h1, h2 => .cons (h1 _ rfl) (by
      have : ∀ {σ : SS} {δ : List Cell}, Paired F σ δ → (∀ (j : Nat) v c', σ[j]? = some v → δ[j]? = some c' → F v c' → F' v c') → Paired F' σ δ := by
        intro σ δ p
        induction p with
        | nil => intro _; exact .nil
        | cons r t ih => intro h; exact .cons (h 0 _ _ rfl rfl r) (ih fun j v c' a b => h (j + 1) v c' (by simpa using a) (by simpa using b))
      exact this t fun j v c' a b => h2 (j + 1) v c' (by omega) (by simpa using a) (by simpa using b))
  | _, _, .cons r t, i + 1, c, h1, h2 => .cons (h2 0 _ _ (by omega) rfl rfl r) (pairedIdx t i c (fun v e => h1 v (by simpa using e)) fun j v c' ne a b => h2 (j + 1) v c' (by omega) (by simpa using a) (by simpa using b))
/-- the cell i has changed within its own objects F -/
theorem Mt.change (m : Mt K G H σ δ) {i : Nat} {a : Addr} {o o' : Ow} (h : δ[i]? = some (.ow a o)) (f : Fr (foot a o) G H (foot a o') G' H') (w : Wd G' H') (ok : OwAt K G' H' a o') (sub : ∀ b ∈ foot a o', b ∈ foot a o) : Mt K G' H' σ (δ.set i (.ow a o')) := by
  have off : ∀ {j : Nat} {c' : Cell}, j ≠ i → δ[j]? = some c' → ∀ b ∈ feetC c', b ∉ foot a o := fun ne hj b hb hm => pwGet m.sep hj h ne b hb hm
  refine ⟨w, pairedIdx m.at_ i _ (fun v hv => ?_) (fun j v c' ne hv hc q => ?_), ?_⟩
  · obtain ⟨v', e, q⟩ := m.get h
    rw [hv] at e
    cases e
    exact ⟨q.1, ok⟩
  · refine q.keep f.gg (fun b hb u e => f.hh b u e (off ne hc b hb)) fun b hb => ?_
    obtain ⟨u, e⟩ := q.all b hb
    exact f.nn b u e (q.none b hb) (off ne hc b hb)
  · have : ∀ (l : List Cell), l.Pairwise Apart → ∀ (i : Nat), l[i]? = some (.ow a o) → (l.set i (.ow a o')).Pairwise Apart := by
      intro l
      induction l with
      | nil => intro _ i hi; simp at hi
      | cons x l ih =>
        intro h i hi
        obtain ⟨h1, h2⟩ := List.pairwise_cons.mp h
        cases i with
        | zero =>
          have e : x = .ow a o := by simpa using hi
          subst e
          exact List.pairwise_cons.mpr ⟨fun c hc b hb => h1 c hc b (sub b hb), h2⟩
        | succ i =>
          have hi' : l[i]? = some (.ow a o) := by simpa using hi
          refine List.pairwise_cons.mpr ⟨fun c hc => ?_, ih h2 i hi'⟩
          rcases List.mem_or_eq_of_mem_set hc with z | z
          · exact h1 c z
          · rw [z]
            intro b hb hb'
            exact h1 _ (List.mem_of_getElem? hi') b hb (sub b hb')
    exact this δ m.sep i h
theorem Fr.widen {F F' : List Addr} (f : Fr F G H F' G' H') {E E' : List Addr} (h1 : ∀ b ∈ F, b ∈ E) (h2 : ∀ b ∈ E', b ∈ F' ∨ b ∈ E) : Fr E G H E' G' H' := f.mono h1 fun b hb => (h2 b hb).elim .inl fun z => .inr (.inl z)
theorem feet_at {i : Nat} {c : Cell} (h : δ[i]? = some c) {b : Addr} (hb : b ∈ feetC c) : b ∈ feet δ := mem_feet.mpr ⟨c, List.mem_of_getElem? h, hb⟩
theorem Fr.cell {i : Nat} {a : Addr} {o o' : Ow} (h : δ[i]? = some (.ow a o)) (f : Fr (foot a o) G H (foot a o') G' H') : Fr (feet δ) G H (feet (δ.set i (.ow a o'))) G' H' :=
  f.widen (fun b hb => feet_at h hb) fun b hb => (feet_set hb).elim .inr .inl
/-- one object of one's own is written -/
theorem Fr.wr {a : Addr} {u : HO} (g : G a = none) : Fr [a] G H [a] G (upd H a u) where
  gg := Le.refl G
  hh := fun b v e n => by rw [upd_ne (by simpa using n)]; exact e
  ff := fun b h => .inl h
  nn := fun b v e h n => h
/-- a list of one's own is written -/
theorem Mt.wrL (m : Mt K G H σ δ) {i : Nat} {a : Addr} {ds ds' : List Dat} {xs : List V} (h : δ[i]? = some (.ow a (.d (.list ds)))) (r : RpA K G xs ds') :
    Mt K G (upd H a (.lst xs)) σ (δ.set i (.ow a (.d (.list ds')))) ∧ Fr (feet δ) G H (feet (δ.set i (.ow a (.d (.list ds'))))) G (upd H a (.lst xs)) := by
  obtain ⟨v, _, _, _, _, _, g⟩ := m.get h
  have f : Fr (foot a (.d (.list ds))) G H (foot a (.d (.list ds'))) G (upd H a (.lst xs)) := Fr.wr g
  exact ⟨m.change h f (m.wd.own g fun _ z => nomatch z) ⟨xs, upd_same, r, g⟩ fun b hb => hb, Fr.cell h f⟩
theorem Mt.atL (m : Mt K G H σ δ) {i : Nat} {a : Addr} {ds : List Dat} (h : δ[i]? = some (.ow a (.d (.list ds)))) : ∃ xs, σ[i]? = some (some (.ref a)) ∧ H a = some (.lst xs) ∧ RpA K G xs ds ∧ G a = Option.none := by
  obtain ⟨v, e, e2, xs, h1, h2, h3⟩ := m.get h
  rw [e2] at e
  exact ⟨xs, e, h1, h2, h3⟩
theorem Mt.wrK (m : Mt K G H σ δ) {i : Nat} {a : Addr} {ds ds' : List (Dat × Dat)} {kvs : List (L2.Key × V)} (h : δ[i]? = some (.ow a (.d (.dict ds)))) (r : RpK K G kvs ds') :
    Mt K G (upd H a (.dK kvs)) σ (δ.set i (.ow a (.d (.dict ds')))) ∧ Fr (feet δ) G H (feet (δ.set i (.ow a (.d (.dict ds'))))) G (upd H a (.dK kvs)) := by
  obtain ⟨v, _, _, _, _, _, g⟩ := m.get h
  have f : Fr (foot a (.d (.dict ds))) G H (foot a (.d (.dict ds'))) G (upd H a (.dK kvs)) := Fr.wr g
  exact ⟨m.change h f (m.wd.own g fun _ z => nomatch z) ⟨kvs, upd_same, r, g⟩ fun b hb => hb, Fr.cell h f⟩
theorem Mt.atK (m : Mt K G H σ δ) {i : Nat} {a : Addr} {ds : List (Dat × Dat)} (h : δ[i]? = some (.ow a (.d (.dict ds)))) : ∃ kvs, σ[i]? = some (some (.ref a)) ∧ H a = some (.dK kvs) ∧ RpK K G kvs ds ∧ G a = Option.none := by
  obtain ⟨v, e, e2, xs, h1, h2, h3⟩ := m.get h
  rw [e2] at e
  exact ⟨xs, e, h1, h2, h3⟩
theorem Mt.wrT (m : Mt K G H σ δ) {i : Nat} {a : Addr} {ds ds' : List (Dat × Dat)} {kvs : List (List L2.Key × V)} (h : δ[i]? = some (.ow a (.t ds))) (r : RpT K G kvs ds') :
    Mt K G (upd H a (.dT kvs)) σ (δ.set i (.ow a (.t ds'))) ∧ Fr (feet δ) G H (feet (δ.set i (.ow a (.t ds')))) G (upd H a (.dT kvs)) := by
  obtain ⟨v, _, _, _, _, _, g⟩ := m.get h
  have f : Fr (foot a (.t ds)) G H (foot a (.t ds')) G (upd H a (.dT kvs)) := Fr.wr g
  exact ⟨m.change h f (m.wd.own g fun _ z => nomatch z) ⟨kvs, upd_same, r, g⟩ fun b hb => hb, Fr.cell h f⟩
theorem Mt.atT (m : Mt K G H σ δ) {i : Nat} {a : Addr} {ds : List (Dat × Dat)} (h : δ[i]? = some (.ow a (.t ds))) : ∃ kvs, σ[i]? = some (some (.ref a)) ∧ H a = some (.dT kvs) ∧ RpT K G kvs ds ∧ G a = Option.none := by
  obtain ⟨v, e, e2, xs, h1, h2, h3⟩ := m.get h
  rw [e2] at e
  exact ⟨xs, e, h1, h2, h3⟩
/-- what was one's own is known from now on -/
theorem Mt.give (m : Mt K G H σ δ) {a : Addr} {u : HO} (hH : H a = some u) (n : ∀ b ∈ feet δ, b ≠ a) (g : G a = Option.none) : Mt K (upd G a u) H σ δ :=
  ⟨m.wd.give hH, pairedKeep m.at_ fun v c hc q => q.keep (Le.upd g) (fun b hb u e => e) (fun b hb => by
    rw [upd_ne (n b (mem_feet.mpr ⟨c, hc, hb⟩))]
    exact q.none b hb), m.sep⟩
/-- a slot's own object is no more known by it -/
theorem Mt.drop (m : Mt K G H σ δ) (i : Nat) : Mt K G H σ (δ.set i .no) := ⟨m.wd, pairedSetR i m.at_ fun _ _ => trivial, pwSet m.sep (fun c _ => apart_no c) i⟩
theorem feet_no {i : Nat} {b : Addr} (h : b ∈ feet (δ.set i .no)) : b ∈ feet δ := (feet_set h).resolve_right fun z => absurd (show b ∈ ([] : List Addr) from z) List.not_mem_nil
/-- what a new object of one's own leaves -/
theorem Mt.newOw (m : Mt K G H σ δ) {p : Addr} {u : HO} {o : Ow} (n : H p = Option.none) (ft : foot p o = [p]) (nt : ∀ xs, u ≠ .tup xs) (ok : OwAt K G (upd H p u) p o) : Mt K G (upd H p u) (some (.ref p) :: σ) (.ow p o :: δ) ∧ Fr (feet δ) G H (feet (.ow p o :: δ)) G (upd H p u) := by
  have g := m.wd.none n
  have off : ∀ b ∈ feet δ, b ≠ p := fun b hb e => by
    obtain ⟨u, e2⟩ := m.all b hb
    rw [e, n] at e2
    cases e2
  refine ⟨⟨m.wd.own g nt, .cons ⟨rfl, ok⟩ (pairedKeep m.at_ fun v c hc q => q.keep (Le.refl G) (fun b hb u e => ?_) fun b hb => q.none b hb), List.pairwise_cons.mpr ⟨fun c hc b hb hb' => ?_, m.sep⟩⟩, ⟨Le.refl G, fun b v e _ => ?_, fun b hb => ?_, fun b v e h _ => h⟩⟩
  · rw [upd_ne (off b (mem_feet.mpr ⟨c, hc, hb⟩))]
    exact e
  · have e : b = p := by
      have : b ∈ foot p o := hb
      rw [ft] at this
      simpa using this
    exact off b (mem_feet.mpr ⟨c, hc, hb'⟩) e
  · rw [upd_ne (ne_of_none e n)]
    exact e
  · rw [feet_cons] at hb
    rcases List.mem_append.mp hb with z | z
    · have e : b = p := by
        have : b ∈ foot p o := z
        rw [ft] at this
        simpa using this
      exact .inr (by rw [e]; exact n)
    · exact .inl z
end

section
variable {X : Cx} {δ : List Cell} {a e : Expr} {es : List Expr} {Φ : Cell → List Cell → Prop} {pos : Pos}
/-! new ones -/
theorem Ev.newL (h : EvA X δ es fun ds δ' => ds.length ≤ sizeLine ∧ ∀ p, Φ (.ow p (.d (.list ds))) δ') : Ev X δ (.List es pos) Φ := fun σ G H m Q q =>
  PE.w (pe_lst paW) (h σ G H m _ fun ds δ' vs G' H' hd m' r f => ⟨by rw [r.length]; exact hd.1, fun p np => by
    obtain ⟨m2, f2⟩ := m'.newOw (u := .lst vs) (o := .d (.list ds)) np rfl (fun _ z => nomatch z) ⟨vs, upd_same, r, m'.wd.none np⟩
    exact q _ _ _ _ _ (hd.2 p) m2 (f.trans f2)⟩)
theorem Ev.newK (h : ∀ p, Φ (.ow p (.d (.dict []))) δ) : Ev X δ (.Dict [] [] pos) Φ := fun σ G H m Q q =>
  PE.w pe_dnewK fun p np => by
    obtain ⟨m2, f2⟩ := m.newOw (u := .dK []) (o := .d (.dict [])) np rfl (fun _ z => nomatch z) ⟨[], upd_same, .nil, m.wd.none np⟩
    exact q _ _ _ _ _ (h p) m2 f2
theorem Ev.newT (h : ∀ p, Φ (.ow p (.t [])) δ) : Ev X δ (.Dict [] [] pos) Φ := fun σ G H m Q q =>
  PE.w pe_dnewT fun p np => by
    obtain ⟨m2, f2⟩ := m.newOw (u := .dT []) (o := .t []) np rfl (fun _ z => nomatch z) ⟨[], upd_same, .nil, m.wd.none np⟩
    exact q _ _ _ _ _ (h p) m2 f2
/-! a name of one's own object: given away -/
theorem Ev.giveVar {i : Nat} {x : Str} {p : Addr} {d : Dat} (h : δ[i]? = some (.ow p (.d d))) (k : Φ (.im d) (δ.set i .no)) (hN : X.N[i]? = some x := by rfl) (hv : Vis X.env.scope x := by first | exact Or.inl rfl | exact Or.inr (Or.inl rfl) | exact Or.inr (Or.inr rfl))
    (hd : (x == ("__debug__" : Str)) = false := by decide) (hcd : (x == ("__classdict__" : Str)) = false := by decide) : Ev X δ (.Name x pos) Φ := fun σ G H m Q q => by
  obtain ⟨v, ev, rfl, ok⟩ := m.get h
  have off : ∀ b ∈ feet (δ.set i .no), b ≠ p := fun b hb e => by
    obtain ⟨c, hc, hb⟩ := mem_feet.mp hb
    obtain ⟨j, hj⟩ := List.getElem?_of_mem hc
    by_cases ij : j = i
    · subst ij
      have hl : j < δ.length := (List.getElem?_eq_some_iff.mp h).1
      rw [List.getElem?_set_self hl] at hj
      cases hj
      exact absurd (show b ∈ ([] : List Addr) from hb) List.not_mem_nil
    · rw [List.getElem?_set_ne (Ne.symm ij)] at hj
      exact pwGet m.sep hj h ij b hb (by rw [e]; simp [feetC, foot])
  have fin : ∀ {u : HO}, H p = some u → G p = none → Rp X.K (upd G p u) (.ref p) d → Q (.ref p) H := fun {u} hp g r => by
    have m2 := (m.drop i).give hp off g
    refine q (.im d) _ _ _ _ k (m2.im r) ⟨Le.upd g, fun b v e _ => e, fun b hb => ?_, fun b v e h0 n => ?_⟩
    · rw [feet_im] at hb
      exact .inl (feet_no hb)
    · rw [upd_ne (fun z => n (by rw [z]; exact feet_at h (by simp [feetC, foot])))]
      exact h0
  refine PE.w (pe_var hN hv hd hcd) ⟨.ref p, ev, ?_⟩
  cases d with
  | list ds =>
    obtain ⟨xs, e, r, g⟩ := ok
    exact fin e g (.lst upd_same (r.mono (Le.upd g)))
  | dict ds =>
    obtain ⟨xs, e, r, g⟩ := ok
    exact fin e g (.dk upd_same (r.mono (Le.upd g)))
  | _ => exact False.elim ok
theorem Ev.giveVarT {i : Nat} {x : Str} {p : Addr} {ds : List (Dat × Dat)} (h : δ[i]? = some (.ow p (.t ds))) (ne : ds ≠ []) (k : Φ (.im (.dict ds)) (δ.set i .no)) (hN : X.N[i]? = some x := by rfl) (hv : Vis X.env.scope x := by first | exact Or.inl rfl | exact Or.inr (Or.inl rfl) | exact Or.inr (Or.inr rfl))
    (hd : (x == ("__debug__" : Str)) = false := by decide) (hcd : (x == ("__classdict__" : Str)) = false := by decide) : Ev X δ (.Name x pos) Φ := fun σ G H m Q q => by
  obtain ⟨v, ev, rfl, kvs, hp, r, g⟩ := m.get h
  have off : ∀ b ∈ feet (δ.set i .no), b ≠ p := fun b hb e => by
    obtain ⟨c, hc, hb⟩ := mem_feet.mp hb
    obtain ⟨j, hj⟩ := List.getElem?_of_mem hc
    by_cases ij : j = i
    · subst ij
      have hl : j < δ.length := (List.getElem?_eq_some_iff.mp h).1
      rw [List.getElem?_set_self hl] at hj
      cases hj
      exact absurd (show b ∈ ([] : List Addr) from hb) List.not_mem_nil
    · rw [List.getElem?_set_ne (Ne.symm ij)] at hj
      exact pwGet m.sep hj h ij b hb (by rw [e]; simp [feetC, foot])
  refine PE.w (pe_var hN hv hd hcd) ⟨.ref p, ev, ?_⟩
  have nk : kvs ≠ [] := fun z => by
    subst z
    cases r
    exact ne rfl
  have m2 := (m.drop i).give hp off g
  refine q (.im (.dict ds)) _ _ _ _ k (m2.im (.dt upd_same nk (r.mono (Le.upd g)))) ⟨Le.upd g, fun b v e _ => e, fun b hb => ?_, fun b v e h0 n => ?_⟩
  · rw [feet_im] at hb
    exact .inl (feet_no hb)
  · rw [upd_ne (fun z => n (by rw [z]; exact feet_at h (by simp [feetC, foot])))]
    exact h0
/-- .. moved -/
theorem Ev.moveVar {i : Nat} {x : Str} {p : Addr} {o : Ow} (h : δ[i]? = some (.ow p o)) (k : Φ (.ow p o) (δ.set i .no)) (hN : X.N[i]? = some x := by rfl) (hv : Vis X.env.scope x := by first | exact Or.inl rfl | exact Or.inr (Or.inl rfl) | exact Or.inr (Or.inr rfl))
    (hd : (x == ("__debug__" : Str)) = false := by decide) (hcd : (x == ("__classdict__" : Str)) = false := by decide) : Ev X δ (.Name x pos) Φ := fun σ G H m Q q => by
  obtain ⟨v, ev, rfl, ok⟩ := m.get h
  refine PE.w (pe_var hN hv hd hcd) ⟨.ref p, ev, q _ _ _ G H k ⟨m.wd, .cons ⟨rfl, ok⟩ (m.drop i).at_, List.pairwise_cons.mpr ⟨fun c hc b hb hb' => ?_, (m.drop i).sep⟩⟩ ((Fr.refl _ _ _).less fun b hb => ?_)⟩
  · obtain ⟨j, hj⟩ := List.getElem?_of_mem hc
    by_cases ij : j = i
    · subst ij
      have hl : j < δ.length := (List.getElem?_eq_some_iff.mp h).1
      rw [List.getElem?_set_self hl] at hj
      cases hj
      exact absurd (show b ∈ ([] : List Addr) from hb') List.not_mem_nil
    · rw [List.getElem?_set_ne (Ne.symm ij)] at hj
      exact pwGet m.sep hj h ij b hb' hb
  · rw [feet_cons] at hb
    rcases List.mem_append.mp hb with z | z
    · exact feet_at h z
    · exact feet_no z
/-! reading one's own object: flat answers -/
def flatD : Dat → Bool
  | .none => true
  | .bool _ => true
  | .int _ => true
  | .str _ => true
  | _ => false
theorem Rp.flat {K : PySem.W.Frag} {G G' : Hp} {v : V} {d : Dat} (r : Rp K G v d) (f : flatD d = true) : Rp K G' v d := by
  cases r with
  | non => exact .non
  | bl b => exact .bl b
  | int i => exact .int i
  | str x => exact .str x
  | _ => cases f
end
end K94
end

/-! text KJ -/
section
set_option Elab.async false
set_option linter.all false
set_option maxRecDepth 100000
set_option maxHeartbeats 4000000
set_option autoImplicit true
/-! one's own objects: read, called, written -/
namespace K94
open PySem PySem.Spec PyProof.Rows L2

section
variable {K : PySem.W.Frag} {G H G' H' : Hp} {σ : SS} {δ : List Cell}
theorem Mt.setIm (m : Mt K G H σ δ) {i : Nat} {v : V} {d : Dat} (hv : σ[i]? = some (some v)) (r : Rp K G v d) : Mt K G H σ (δ.set i (.im d)) :=
  ⟨m.wd, pairedSetR i m.at_ fun x e => ⟨v, Option.some.inj (e.symm.trans hv), r⟩, pwSet m.sep (fun c _ => apart_im d c) i⟩
theorem Mt.off (m : Mt K G H σ δ) {i : Nat} {p : Addr} {o : Ow} (h : δ[i]? = some (.ow p o)) (c : Cell) (hc : feetC c = []) : ∀ b ∈ feet (δ.set i c), b ∉ foot p o := fun b hb e => by
  obtain ⟨c', hc', hb⟩ := mem_feet.mp hb
  obtain ⟨j, hj⟩ := List.getElem?_of_mem hc'
  by_cases ij : j = i
  · subst ij
    have hl : j < δ.length := (List.getElem?_eq_some_iff.mp h).1
    rw [List.getElem?_set_self hl] at hj
    cases hj
    rw [hc] at hb
    exact absurd hb List.not_mem_nil
  · rw [List.getElem?_set_ne (Ne.symm ij)] at hj
    exact pwGet m.sep hj h ij b hb e
/-- an object of one's own, read as data -/
def LendO : Ow → Dat → Prop
  | .d d, d' => d' = d
  | .t ds, d' => d' = .dict ds ∧ ds ≠ []
  | _, _ => False
theorem Mt.lend (m : Mt K G H σ δ) {i : Nat} {p : Addr} {o : Ow} {d : Dat} (h : δ[i]? = some (.ow p o)) (l : LendO o d) : ∃ u, H p = some u ∧ G p = Option.none ∧ (∀ xs, u ≠ .tup xs) ∧ Mt K (upd G p u) H σ (δ.set i (.im d)) := by
  obtain ⟨v, ev, rfl, ok⟩ := m.get h
  have fin : ∀ {u : HO}, foot p o = [p] → H p = some u → G p = Option.none → Rp K (upd G p u) (.ref p) d → Mt K (upd G p u) H σ (δ.set i (.im d)) := fun {u} ft hp g r => by
    have m2 := (m.drop i).give hp (fun b hb e => m.off h .no rfl b hb (by rw [ft, e]; exact List.mem_cons_self)) g
    have m3 := m2.setIm ev r
    rw [List.set_set] at m3
    exact m3
  cases o with
  | d d0 =>
    have e : d = d0 := l
    subst e
    cases d with
    | list ds =>
      obtain ⟨xs, e, r, g⟩ := ok
      exact ⟨_, e, g, fun _ z => (nomatch z), fin rfl e g (.lst upd_same (r.mono (Le.upd g)))⟩
    | dict ds =>
      obtain ⟨xs, e, r, g⟩ := ok
      exact ⟨_, e, g, fun _ z => (nomatch z), fin rfl e g (.dk upd_same (r.mono (Le.upd g)))⟩
    | _ => exact False.elim ok
  | t ds =>
    obtain ⟨rfl, ne⟩ := l
    obtain ⟨xs, e, r, g⟩ := ok
    exact ⟨_, e, g, fun _ z => (nomatch z), fin rfl e g (.dt upd_same (fun z => by subst z; cases r; exact ne rfl) (r.mono (Le.upd g)))⟩
  | st => exact False.elim l
/-- .. given back -/
theorem unlend {u : HO} {p : Addr} (hp : H p = some u) (g : G p = Option.none) (nt : ∀ xs, u ≠ .tup xs) (w : Wd G' H') (ex : Ext (upd G p u) H G' H') :
    ∃ G'', (∀ b v, G'' b = some v → G' b = some v) ∧ Wd G'' H' ∧ Ext G H G'' H' := by
  refine ⟨fun b => if b = p then none else G' b, fun b v e => ?_, ⟨fun b v e => ?_, fun b xs e => ?_⟩, ⟨fun b v e => ?_, ex.hh, fun b h => absurd h List.not_mem_nil, fun b v e n nf => ?_⟩⟩
  · by_cases z : b = p
    · simp only [z, if_true] at e; cases e
    · simpa only [z, if_false] using e
  · by_cases z : b = p
    · simp only [z, if_true] at e; cases e
    · simp only [z, if_false] at e; exact w.sub b v e
  · by_cases z : b = p
    · subst z
      have q := ex.hh b u hp List.not_mem_nil
      rw [e] at q
      cases q
      exact absurd rfl (nt xs)
    · simp only [z, if_false]
      exact w.tup b xs e
  · have z : b ≠ p := fun z => by rw [z, g] at e; cases e
    simp only [z, if_false]
    exact ex.gg b v (by rw [upd_ne z]; exact e)
  · by_cases z : b = p
    · simp only [z, if_true]
    · simp only [z, if_false]
      exact ex.nn b v e (by rw [upd_ne z]; exact n) nf
end
/-- a name that stands at i -/
def NameAt (X : Cx) (i : Nat) (x : Str) : Prop := X.N[i]? = some x ∧ Vis X.env.scope x ∧ (x == ("__debug__" : Str)) = false ∧ (x == ("__classdict__" : Str)) = false
def NamePut (X : Cx) (i : Nat) (x : Str) : Prop := X.N.Nodup ∧ X.N[i]? = some x ∧ Loc X.env.scope x ∧ (X.fn x = true ∨ X.env.scope.names.lookup x = some .local)
section
variable {X : Cx} {δ : List Cell} {a b e : Expr} {es : List Expr} {d d1 d2 : Dat} {Φ : Cell → List Cell → Prop} {Ψ : Dat → List Cell → Prop} {p pos cpos apos : Pos} {x : Str} {i : Nat} {q : Addr}
theorem peName (h : NameAt X i x) : PE X (.Name x pos) (tVar i) := pe_var h.1 h.2.1 h.2.2.1 h.2.2.2
theorem EvP.readOwn {o : Ow} {dd : Dat} (h : δ[i]? = some (.ow q o)) (l : LendO o dd) (k : EvP X (δ.set i (.im dd)) e d) (f : flatD d = true) : EvP X δ e d := fun σ G H m Q qq => by
  obtain ⟨u, hu, g, nt, m2⟩ := m.lend h l
  refine k σ _ H m2 Q fun v G' H' r w ex => ?_
  obtain ⟨G'', _, w2, ex2⟩ := unlend hu g nt w ex
  exact qq v G'' H' (r.flat f) w2 ex2
theorem EvTP.readOwn {o : Ow} {dd : Dat} {c : Bool} (h : δ[i]? = some (.ow q o)) (l : LendO o dd) (k : EvTP X (δ.set i (.im dd)) e c) : EvTP X δ e c := fun σ G H m Q qq => by
  obtain ⟨u, hu, g, nt, m2⟩ := m.lend h l
  refine k σ _ H m2 Q fun G' H' w ex => ?_
  obtain ⟨G'', _, w2, ex2⟩ := unlend hu g nt w ex
  exact qq G'' H' w2 ex2
/-- x[e], x a list of one's own -/
theorem EvP.ownIx {as : List Dat} {k : Int} (h : δ[i]? = some (.ow q (.d (.list as)))) (hb : EvP X δ b (.int k)) (hk : atI as k = some d) (hn : NameAt X i x := by exact ⟨rfl, by first | exact Or.inl rfl | exact Or.inr (Or.inl rfl) | exact Or.inr (Or.inr rfl), by decide, by decide⟩) (hs : PlainIx b := by intro _ _; rfl) :
    EvP X δ (.Subscript (.Name x p) b pos) d := fun σ G H m Q qq => by
  obtain ⟨xs, ev, hH, r, g⟩ := m.atL h
  refine PE.w (pe_ix ix_list (peName hn) peW hs) ⟨.ref q, ev, oneP m hb fun z G2 H2 m2 r2 f2 => ?_⟩
  cases r2
  obtain ⟨v, hv, rv⟩ := r.atI hk
  exact ⟨q, xs, k, v, rfl, rfl, SqL.of (f2.hh q _ hH List.not_mem_nil), hv, qq v G2 H2 (rv.mono f2.gg) m2.wd f2⟩
/-! methods of lists -/
theorem tyList {K : PySem.W.Frag} {H : Hp} {q : Addr} {xs : List V} (h : H q = some (.lst xs)) : tyV K "list" (.ref q) H := .inl ⟨rfl, xs, SqL.of h⟩
theorem Mt.frN {K : PySem.W.Frag} {G H G' H' : Hp} {σ : SS} {δ δ' : List Cell} {Q : VK} (m : Mt K G H σ δ') (f : Fr (feet δ) G' H' (feet δ') G H) (qq : Post K (feet δ) G' H' σ Φ Q) (k : Φ (.im .none) δ') : Q .non H :=
  qq (.im .none) δ' .non G H k (m.im .non) (by rw [feet_im]; exact f)
theorem Ev.append (ha : EvI X δ e fun d δ1 => ∃ as, δ1[i]? = some (.ow q (.d (.list as))) ∧ as.length ≤ 1000 ∧ Φ (.im .none) (δ1.set i (.ow q (.d (.list (as ++ [d]))))))
    (h : ∃ o, δ[i]? = some (.ow q (.d (.list o)))) (hn : NameAt X i x := by exact ⟨rfl, by first | exact Or.inl rfl | exact Or.inr (Or.inl rfl) | exact Or.inr (Or.inr rfl), by decide, by decide⟩)
    (hbase : attributeBase (.Name x p) "append" X.env (eval (.Name x p) X.env) = eval (.Name x p) X.env := by rfl)
    (hfew : ((backTo cpos (starEach [e] X.env)).all (fun x => !x.1) && (backToKw cpos (keywordEach [] X.env)).all (fun x => x.1.isSome) && decide ([e].length + ([] : List Keyword).length + (if ([] : List Keyword).isEmpty then 0 else 1) < 30)) = true := by rfl)
    (hline : (apos.endLine == cpos.line) = true := by rfl) (hs : starEach [e] X.env = (false, eval e X.env) :: starEach [] X.env := by rfl) :
    Ev X δ (.Call (.Attribute (.Name x p) "append" apos) [e] [] cpos) Φ := fun σ G H m Q qq => by
  obtain ⟨o, h⟩ := h
  obtain ⟨xs0, ev, hH, _, _⟩ := m.atL h
  refine PE.w (pe_bm PySem.F.plainAttrs_list PySem.F.slot_list_append PySem.F.type_list_append mt_append (peName hn) (pa_cons peW pa_nil hs) hbase hfew hline hs rfl) ⟨.ref q, ev, tyList hH, ?_⟩
  refine ha σ G H m _ fun d δ1 v G1 H1 ⟨as, h1, hz, hk⟩ m1 r1 f1 => ?_
  obtain ⟨xs, ev1, hH1, rx, g1⟩ := m1.atL h1
  obtain ⟨m2, f2⟩ := m1.wrL h1 (rx.app (.cons r1 .nil))
  exact ⟨q, xs, v, rfl, rfl, hH1, by rw [rx.length]; exact small1000 hz, m2.frN (f1.trans f2) qq hk⟩
theorem Ev.extend (ha : EvI X δ e fun d δ1 => ∃ as bs, d = .list bs ∧ δ1[i]? = some (.ow q (.d (.list as))) ∧ as.length + bs.length ≤ 1000 ∧ Φ (.im .none) (δ1.set i (.ow q (.d (.list (as ++ bs))))))
    (h : ∃ o, δ[i]? = some (.ow q (.d (.list o)))) (hn : NameAt X i x := by exact ⟨rfl, by first | exact Or.inl rfl | exact Or.inr (Or.inl rfl) | exact Or.inr (Or.inr rfl), by decide, by decide⟩)
    (hbase : attributeBase (.Name x p) "extend" X.env (eval (.Name x p) X.env) = eval (.Name x p) X.env := by rfl)
    (hfew : ((backTo cpos (starEach [e] X.env)).all (fun x => !x.1) && (backToKw cpos (keywordEach [] X.env)).all (fun x => x.1.isSome) && decide ([e].length + ([] : List Keyword).length + (if ([] : List Keyword).isEmpty then 0 else 1) < 30)) = true := by rfl)
    (hline : (apos.endLine == cpos.line) = true := by rfl) (hs : starEach [e] X.env = (false, eval e X.env) :: starEach [] X.env := by rfl) :
    Ev X δ (.Call (.Attribute (.Name x p) "extend" apos) [e] [] cpos) Φ := fun σ G H m Q qq => by
  obtain ⟨o, h⟩ := h
  obtain ⟨xs0, ev, hH, _, _⟩ := m.atL h
  refine PE.w (pe_bm PySem.F.plainAttrs_list PySem.F.slot_list_extend PySem.F.type_list_extend mt_extend (peName hn) (pa_cons peW pa_nil hs) hbase hfew hline hs rfl) ⟨.ref q, ev, tyList hH, ?_⟩
  refine ha σ G H m _ fun d δ1 v G1 H1 ⟨as, bs, hd, h1, hz, hk⟩ m1 r1 f1 => ?_
  subst hd
  obtain ⟨xs, ev1, hH1, rx, g1⟩ := m1.atL h1
  cases r1 with
  | @lst b ys _ gb rb =>
    obtain ⟨m2, f2⟩ := m1.wrL h1 (rx.app rb)
    exact ⟨q, b, xs, ys, rfl, rfl, hH1, m1.wd.lstH gb, by rw [rx.length, rb.length]; exact Nat.le_of_lt (small1000 hz), m2.frN (f1.trans f2) qq hk⟩
theorem Ev.insert {e1 e2 : Expr} (ha : EvI X δ e1 fun d1 δ1 => EvI X δ1 e2 fun d δ2 => ∃ as, ∃ n : Nat, d1 = .int n ∧ δ2[i]? = some (.ow q (.d (.list as))) ∧ as.length ≤ 1000 ∧ n ≤ 1000 ∧ Φ (.im .none) (δ2.set i (.ow q (.d (.list (as.take n ++ [d] ++ as.drop n))))))
    (h : ∃ o, δ[i]? = some (.ow q (.d (.list o)))) (hn : NameAt X i x := by exact ⟨rfl, by first | exact Or.inl rfl | exact Or.inr (Or.inl rfl) | exact Or.inr (Or.inr rfl), by decide, by decide⟩)
    (hbase : attributeBase (.Name x p) "insert" X.env (eval (.Name x p) X.env) = eval (.Name x p) X.env := by rfl)
    (hfew : ((backTo cpos (starEach [e1, e2] X.env)).all (fun x => !x.1) && (backToKw cpos (keywordEach [] X.env)).all (fun x => x.1.isSome) && decide ([e1, e2].length + ([] : List Keyword).length + (if ([] : List Keyword).isEmpty then 0 else 1) < 30)) = true := by rfl)
    (hline : (apos.endLine == cpos.line) = true := by rfl) (hs : starEach [e1, e2] X.env = (false, eval e1 X.env) :: starEach [e2] X.env := by rfl) (hs2 : starEach [e2] X.env = (false, eval e2 X.env) :: starEach [] X.env := by rfl) :
    Ev X δ (.Call (.Attribute (.Name x p) "insert" apos) [e1, e2] [] cpos) Φ := fun σ G H m Q qq => by
  obtain ⟨o, h⟩ := h
  obtain ⟨xs0, ev, hH, _, _⟩ := m.atL h
  refine PE.w (pe_bm PySem.F.plainAttrs_list PySem.F.slot_list_insert PySem.F.type_list_insert mt_insert (peName hn) (pa_cons peW (pa_cons peW pa_nil hs2) hs) hbase hfew hline hs (by rw [hs2]; rfl)) ⟨.ref q, ev, tyList hH, ?_⟩
  refine two (Q := _) m ha fun d1 d2 δ2 y v G2 H2 hc m2 r1 r2 f2 => ?_
  obtain ⟨as, n, rfl, h1, hz, hz2, hk⟩ := hc
  cases r1
  obtain ⟨xs, ev1, hH1, rx, g1⟩ := m2.atL h1
  obtain ⟨m3, f3⟩ := m2.wrL h1 (((rx.take n).app (.cons r2 .nil)).app (rx.drop n))
  exact ⟨q, xs, n, v, rfl, rfl, hH1, by rw [rx.length]; exact small1000 hz, by omega, by omega, m3.frN (f2.trans f3) qq hk⟩
theorem Ev.pop {as : List Dat} (h : δ[i]? = some (.ow q (.d (.list (as ++ [d]))))) (hk : Φ (.im d) (δ.set i (.ow q (.d (.list as))))) (hn : NameAt X i x := by exact ⟨rfl, by first | exact Or.inl rfl | exact Or.inr (Or.inl rfl) | exact Or.inr (Or.inr rfl), by decide, by decide⟩)
    (hbase : attributeBase (.Name x p) "pop" X.env (eval (.Name x p) X.env) = eval (.Name x p) X.env := by rfl) (hline : (apos.endLine == cpos.line) = true := by rfl) :
    Ev X δ (.Call (.Attribute (.Name x p) "pop" apos) [] [] cpos) Φ := fun σ G H m Q qq => by
  obtain ⟨xs, ev, hH, rx, g⟩ := m.atL h
  have hl := rx.length
  rw [List.length_append, List.length_singleton] at hl
  have hd : (as ++ [d])[xs.length - 1]? = some d := by rw [hl, Nat.add_sub_cancel]; simp
  obtain ⟨v, hv, rv⟩ := rx.getR hd
  have rd : RpA X.K G xs.dropLast as := by
    have q1 := rx.take as.length
    rw [List.take_left] at q1
    rw [List.dropLast_eq_take, hl, Nat.add_sub_cancel]
    exact q1
  obtain ⟨m2, f2⟩ := m.wrL h rd
  refine PE.w (pe_bm0 PySem.F.plainAttrs_list PySem.F.slot_list_pop PySem.F.type_list_pop mt_pop (peName hn) hbase hline) ⟨.ref q, ev, tyList hH, q, xs, v, rfl, rfl, hH, hv, ?_⟩
  exact qq (.im d) _ v G _ hk (m2.im rv) (by rw [feet_im]; exact f2)
end
end K94
end

/-! text KK -/
section
set_option Elab.async false
set_option linter.all false
set_option maxRecDepth 100000
set_option maxHeartbeats 4000000
set_option autoImplicit true
/-! more of methods; dicts of one's own written -/
namespace K94
open PySem PySem.Spec PyProof.Rows L2

/-! ### a dict's pairs, one put -/
def dputK (ds : List (Dat × Dat)) (k : L2.Key) (d : Dat) : List (Dat × Dat) :=
  if (ds.any fun p => isK p.1 k) = true then ds.map (fun p => if isK p.1 k = true then (p.1, d) else p) else ds ++ [(kD k, d)]
def dputT (ds : List (Dat × Dat)) (k : List L2.Key) (d : Dat) : List (Dat × Dat) :=
  if (ds.any fun p => isKs p.1 k) = true then ds.map (fun p => if isKs p.1 k = true then (p.1, d) else p) else ds ++ [(tK k, d)]
theorem isKs_tK (k' k : List L2.Key) : isKs (tK k') k = decide (k' = k) := isKL_kD k' k
section
variable {K : PySem.W.Frag} {G : Hp}
theorem RpK.any (k : L2.Key) : ∀ {kvs : List (L2.Key × V)} {ds : List (Dat × Dat)}, RpK K G kvs ds → (kvs.any fun kv => decide (kv.1 = k)) = ds.any fun p => isK p.1 k
  | _, _, .nil => rfl
  | _, _, .cons _ t => by rw [List.any_cons, List.any_cons, RpK.any k t, isK_kD]
theorem RpT.any (k : List L2.Key) : ∀ {kvs : List (List L2.Key × V)} {ds : List (Dat × Dat)}, RpT K G kvs ds → (kvs.any fun kv => decide (kv.1 = k)) = ds.any fun p => isKs p.1 k
  | _, _, .nil => rfl
  | _, _, .cons _ t => by rw [List.any_cons, List.any_cons, RpT.any k t, ← isKs_tK]
theorem RpK.mapPut (k : L2.Key) {v : V} {d : Dat} (r : Rp K G v d) : ∀ {kvs : List (L2.Key × V)} {ds : List (Dat × Dat)}, RpK K G kvs ds → RpK K G (kvs.map fun kv => if kv.1 = k then (kv.1, v) else kv) (ds.map fun p => if isK p.1 k = true then (p.1, d) else p)
  | _, _, .nil => .nil
  | _, _, @RpK.cons _ _ k' v' vs d' ds h t => by
    rw [List.map_cons, List.map_cons]
    by_cases e : k' = k
    · rw [if_pos e, if_pos (by rw [isK_kD]; exact decide_eq_true e)]
      exact .cons r (RpK.mapPut k r t)
    · rw [if_neg e, if_neg (by rw [isK_kD, decide_eq_false e]; exact Bool.false_ne_true)]
      exact .cons h (RpK.mapPut k r t)
theorem RpT.mapPut (k : List L2.Key) {v : V} {d : Dat} (r : Rp K G v d) : ∀ {kvs : List (List L2.Key × V)} {ds : List (Dat × Dat)}, RpT K G kvs ds → RpT K G (kvs.map fun kv => if kv.1 = k then (kv.1, v) else kv) (ds.map fun p => if isKs p.1 k = true then (p.1, d) else p)
  | _, _, .nil => .nil
  | _, _, @RpT.cons _ _ k' v' vs d' ds h t => by
    rw [List.map_cons, List.map_cons]
    by_cases e : k' = k
    · rw [if_pos e, if_pos (by rw [isKs_tK]; exact decide_eq_true e)]
      exact .cons r (RpT.mapPut k r t)
    · rw [if_neg e, if_neg (by rw [isKs_tK, decide_eq_false e]; exact Bool.false_ne_true)]
      exact .cons h (RpT.mapPut k r t)
theorem RpK.app : ∀ {vs ws : List (L2.Key × V)} {ds es : List (Dat × Dat)}, RpK K G vs ds → RpK K G ws es → RpK K G (vs ++ ws) (ds ++ es)
  | _, _, _, _, .nil, t => t
  | _, _, _, _, .cons r s, t => .cons r (RpK.app s t)
theorem RpT.app : ∀ {vs ws : List (List L2.Key × V)} {ds es : List (Dat × Dat)}, RpT K G vs ds → RpT K G ws es → RpT K G (vs ++ ws) (ds ++ es)
  | _, _, _, _, .nil, t => t
  | _, _, _, _, .cons r s, t => .cons r (RpT.app s t)
theorem RpK.length : ∀ {vs : List (L2.Key × V)} {ds : List (Dat × Dat)}, RpK K G vs ds → vs.length = ds.length
  | _, _, .nil => rfl
  | _, _, .cons _ t => by rw [List.length_cons, List.length_cons, RpK.length t]
theorem RpT.length : ∀ {vs : List (List L2.Key × V)} {ds : List (Dat × Dat)}, RpT K G vs ds → vs.length = ds.length
  | _, _, .nil => rfl
  | _, _, .cons _ t => by rw [List.length_cons, List.length_cons, RpT.length t]
theorem RpK.put {kvs : List (L2.Key × V)} {ds : List (Dat × Dat)} {v : V} {d : Dat} (h : RpK K G kvs ds) (k : L2.Key) (r : Rp K G v d) : RpK K G (putK kvs k v) (dputK ds k d) := by
  unfold putK dputK
  rw [h.any k]
  split
  · exact h.mapPut k r
  · exact h.app (.cons r .nil)
theorem RpT.put {kvs : List (List L2.Key × V)} {ds : List (Dat × Dat)} {v : V} {d : Dat} (h : RpT K G kvs ds) (k : List L2.Key) (r : Rp K G v d) : RpT K G (putK kvs k v) (dputT ds k d) := by
  unfold putK dputT
  rw [h.any k]
  split
  · exact h.mapPut k r
  · exact h.app (.cons r .nil)
end
section
variable {X : Cx} {δ : List Cell} {a b e o : Expr} {es : List Expr} {d d0 d1 d2 : Dat} {ds : List Dat} {Φ : Out → Prop} {p pos cpos apos pos' : Pos} {x name : Str} {i : Nat} {q : Addr} {T fid : String}
/-! methods that only read -/
theorem tyRpL : TyOk X "list" (fun x H => ∃ a xs, x = .ref a ∧ SqL X.K H a xs) := by
  intro pins σ H s x v I r ty
  obtain ⟨a, xs, rfl, h⟩ := ty
  cases r
  obtain ⟨its, _, ⟨o, n, e, c, dn, d⟩, _⟩ := I.list h
  exact ⟨⟨o, e, c⟩, fun b z => by cases z; exact ⟨o, e, dn⟩⟩
theorem tyRpF : TyOk X "tuple" (fun x H => ∃ a ob xs, x = .ref a ∧ H a = some (.frz ob (.tup xs)) ∧ ob.dict = none) := by
  intro pins σ H s x v I r ty
  obtain ⟨a, ob, xs, rfl, h, hd⟩ := ty
  cases r
  obtain ⟨e, _, its, _, o, e2, c, _⟩ := I.hok a _ h
  rw [e] at e2
  cases e2
  exact ⟨⟨ob, e, c⟩, fun b z => by cases z; exact ⟨ob, e, hd⟩⟩
theorem EvP.metG {ty : V → Hp → Prop} (ht : TyOk X T ty) (ho : EvP X δ o d0) (ha : EvAP X δ (e :: es) ds) (hm : MetD X fid d0 ds d) (hty : ∀ G H x, Wd G H → Rp X.K G x d0 → ty x H)
    (pa : PlainAttrs T) (slot : Slot T name fid) (htd : typeOf (.builtin fid) = pure (.type "method_descriptor"))
    (hbase : attributeBase o name X.env (eval o X.env) = eval o X.env := by rfl)
    (hfew : ((backTo cpos (starEach (e :: es) X.env)).all (fun x => !x.1) && (backToKw cpos (keywordEach [] X.env)).all (fun x => x.1.isSome) && decide ((e :: es).length + ([] : List Keyword).length + (if ([] : List Keyword).isEmpty then 0 else 1) < 30)) = true := by rfl)
    (hline : (apos.endLine == cpos.line) = true := by rfl) (hs : starEach (e :: es) X.env = (false, eval e X.env) :: starEach es X.env := by rfl) (hplain : (backTo cpos (starEach es X.env)).any (·.1) = false := by rfl) :
    EvP X δ (.Call (.Attribute o name apos) (e :: es) [] cpos) d := fun σ G H m Q qq => by
  refine PE.w (pe_mG ht pa slot htd metW peW paW hbase hfew hline hs hplain) (oneP m ho fun v G1 H1 m1 r1 f1 => ⟨hty G1 H1 v m1.wd r1, ?_⟩)
  exact ha σ G1 H1 m1 _ fun vs G2 H2 r2 w2 f2 => hm G2 H2 v vs Q w2 (r1.mono f2.gg) r2 fun z G3 H3 rz w3 f3 => qq z G3 H3 rz w3 (f1.trans (f2.trans f3))
theorem MetD.ofQ (h : ∀ (G H : Hp) (x : V) (vs : List V) (Q : VK), Wd G H → Rp X.K G x d0 → RpA X.K G vs ds → (∀ z, Rp X.K G z d → Q z H) → wpM X fid x vs H Q) : MetD X fid d0 ds d := fun G H x vs Q w rx r q => h G H x vs Q w rx r fun z rz => q z G H rz w (Fr.refl _ _ _)
/-- t.index(x), texts -/
theorem EvP.index {ks : List Str} {z : Str} {j : Nat} (ho : EvP X δ o (.ftup (dS ks))) (ha : EvP X δ e (.str z)) (h1 : ks[j]? = some z) (h2 : ∀ m, m < j → ks[m]? ≠ some z)
    (hbase : attributeBase o "index" X.env (eval o X.env) = eval o X.env := by rfl)
    (hfew : ((backTo cpos (starEach [e] X.env)).all (fun x => !x.1) && (backToKw cpos (keywordEach [] X.env)).all (fun x => x.1.isSome) && decide ([e].length + ([] : List Keyword).length + (if ([] : List Keyword).isEmpty then 0 else 1) < 30)) = true := by rfl)
    (hline : (apos.endLine == cpos.line) = true := by rfl) (hs : starEach [e] X.env = (false, eval e X.env) :: starEach [] X.env := by rfl) :
    EvP X δ (.Call (.Attribute o "index" apos) [e] [] cpos) (.int (j : Nat)) := by
  refine .metG tyRpF ho (.cons ha .nil hs) (.ofQ fun G H x vs Q w rx r qq => ?_) (fun G H x w r => ?_) PySem.F.plainAttrs_tuple PySem.F.slot_tuple_index PySem.F.type_tuple_index hbase hfew hline hs
  · obtain ⟨v, rfl, rv⟩ := rpa1 r
    cases rv
    cases rx with
    | @ftup p ob xs _ gp hn rp =>
      have e := rp.strs
      subst e
      exact MtR.w mt_tup_index ⟨p, ks, z, j, rfl, rfl, .inl (w.rd2 (.inr ⟨ob, gp⟩)), h1, h2, qq _ (.int _)⟩
  · cases r with
    | @ftup p ob xs _ gp hn rp => exact ⟨p, ob, xs, rfl, w.frzT gp, hn⟩
/-- l.count(x) -/
theorem EvP.count (g : Gx X) {as : List Dat} (ho : EvP X δ o (.list as)) (ha : EvP X δ e d1) (h1 : PyData.plainAll (pyAll as) = true) (h2 : d1.py.plain = true) (h3 : d1.py.depth ≤ 50)
    (hbase : attributeBase o "count" X.env (eval o X.env) = eval o X.env := by rfl)
    (hfew : ((backTo cpos (starEach [e] X.env)).all (fun x => !x.1) && (backToKw cpos (keywordEach [] X.env)).all (fun x => x.1.isSome) && decide ([e].length + ([] : List Keyword).length + (if ([] : List Keyword).isEmpty then 0 else 1) < 30)) = true := by rfl)
    (hline : (apos.endLine == cpos.line) = true := by rfl) (hs : starEach [e] X.env = (false, eval e X.env) :: starEach [] X.env := by rfl) :
    EvP X δ (.Call (.Attribute o "count" apos) [e] [] cpos) (.int (((pyAll as).countP fun y => PyData.eqv y d1.py : Nat) : Int)) := by
  refine .metG tyRpL ho (.cons ha .nil hs) (fun G H x vs Q w rx r qq => ?_) (fun G H x w r => ?_) PySem.F.plainAttrs_list PySem.F.slot_list_count PySem.F.type_list_count hbase hfew hline hs
  · obtain ⟨v, rfl, rv⟩ := rpa1 r
    cases rx with
    | @lst p xs _ gp rp =>
      intro pins s σ v1 us I rx1 rv1
      cases rx1
      obtain ⟨u, rfl, ru⟩ := vals1 rv1
      obtain ⟨its, rt, pl, _⟩ := I.list (SqL.of (w.lstH gp))
      obtain ⟨as', ra, _⟩ := rp.reads g.sm I w rt
      obtain ⟨bs, rb, _⟩ := rv.reads g.sm I w ru
      exact SeqAt.count_list_data pl.isList (by simpa using ra) rb h1 h2 (by have := g.hu; omega) ⟨.int _, H, I.tok _, ⟨_, rfl⟩, qq _ G H (.int _) w (Fr.refl _ _ _)⟩
  · cases r with
    | lst gp rp => exact ⟨_, _, rfl, SqL.of (w.lstH gp)⟩
/-- d.get(k, e), the keys tuples -/
theorem EvP.getT (g : Gx X) {f : Expr} {ps : List (Dat × Dat)} {k : List L2.Key} (ho : EvP X δ o (.dict ps)) (ha : EvP X δ e (tK k)) (hf : EvP X δ f d1) (at_ : Tups ps)
    (m : M2 X o "get" apos e f cpos := by exact ⟨rfl, rfl, rfl, rfl⟩) : EvP X δ (.Call (.Attribute o "get" apos) [e, f] [] cpos) ((dlookT ps k).getD d1) := fun σ G H mt Q qq => by
  refine PE.w (pe_dget2 (by have := g.hu; omega) peW peW peW m) (oneP mt ho fun v G1 H1 m1 r1 f1 => ?_)
  obtain ⟨p, kvs, rfl, ga, ra⟩ := r1.dictT at_
  refine ⟨p, rfl, .inr ⟨_, m1.wd.rd ga⟩, oneP m1 ha fun y G2 H2 m2 r2 f2 => oneP m2 hf fun z G3 H3 m3 r3 f3 => ?_⟩
  have f23 := f2.trans f3
  obtain ⟨p', o', e', _, hg, hr⟩ := K94.dgetT (H := H3) m3.wd (r1.mono f23.gg) (r2.mono f3.gg) at_
  cases e'
  refine ⟨o', hg, ?_⟩
  rcases hr with ⟨v, d', rfl, h2, rv⟩ | ⟨rfl, h2⟩
  · rw [h2] at qq
    exact qq v G3 H3 rv m3.wd (f1.trans f23)
  · rw [h2] at qq
    exact qq z G3 H3 r3 m3.wd (f1.trans f23)
end
end K94
end

/-! text KL -/
section
set_option Elab.async false
set_option linter.all false
set_option maxRecDepth 100000
set_option maxHeartbeats 4000000
set_option autoImplicit true
/-! statements that write; loops over dicts; while; stores of several -/
namespace K94
open PySem PySem.Spec PyProof.Rows L2

section
variable {X : Cx} {δ : List Cell} {a b e o v k : Expr} {es : List Expr} {d d0 d1 d2 : Dat} {ds : List Dat} {Φ : Out → Prop} {p pos cpos apos pos' : Pos} {x name : Str} {i : Nat} {q : Addr}
theorem Mt.nxOf {K : PySem.W.Frag} {G H G' H' : Hp} {σ : SS} {F : List Addr} {δ' : List Cell} {D : Ends} (m : Mt K G' H' σ δ') (f : Fr F G H (feet δ') G' H') (r : RunPost K F G H Φ D) (h : Φ (.nx δ')) : D.nx σ H' := r.nx δ' σ G' H' h m f
/-- x[k] = v, x a dict of one's own, keys ints or texts; v first, then k -/
theorem RunS.putK (h : EvI X δ v fun d δ1 => ∃ ps dk kk, δ1[i]? = some (.ow q (.d (.dict ps))) ∧ EvP X δ1 k dk ∧ KeyIs dk kk ∧ ps.length ≤ 1000 ∧ Φ (.nx (δ1.set i (.ow q (.d (.dict (dputK ps kk d)))))))
    (g : Gx X) (hn : NameAt X i x := by exact ⟨rfl, by first | exact Or.inl rfl | exact Or.inr (Or.inl rfl) | exact Or.inr (Or.inr rfl), by decide, by decide⟩)
    (hs : swapsWith v (some (.Subscript (.Name x p) k pos')) pos.line X.env = pure false := by rfl) : RunS X δ (.Assign [.Subscript (.Name x p) k pos'] v pos) Φ := fun σ G H m D r => by
  refine PS.w (ps_dput (by have := g.hu; omega) (peName hn) peW peW hs) (h σ G H m _ fun d δ1 vv G1 H1 h1 m1 r1 f1 => ?_)
  obtain ⟨ps, dk, kk, h3, hk, hkk, hz, hp⟩ := h1
  obtain ⟨_, ev0, _⟩ := m1.atK h3
  refine ⟨.ref q, ev0, oneP m1 hk fun y G2 H2 m2 r2 f2 => ?_⟩
  obtain ⟨kvs, ev, hH, rk, g0⟩ := m2.atK h3
  obtain ⟨m3, f3⟩ := m2.wrK h3 (rk.put kk (r1.mono f2.gg))
  rw [hkk.v r2]
  exact ⟨q, _, rfl, .k hH (by rw [rk.length]; exact small1000 hz), m3.nxOf (f1.trans ((Ext.up f2 _).trans f3)) r hp⟩
/-- .. keys tuples -/
theorem RunS.putT (h : EvI X δ v fun d δ1 => ∃ ps kk, δ1[i]? = some (.ow q (.t ps)) ∧ EvP X δ1 k (tK kk) ∧ ps.length ≤ 1000 ∧ Φ (.nx (δ1.set i (.ow q (.t (dputT ps kk d))))))
    (g : Gx X) (hn : NameAt X i x := by exact ⟨rfl, by first | exact Or.inl rfl | exact Or.inr (Or.inl rfl) | exact Or.inr (Or.inr rfl), by decide, by decide⟩)
    (hs : swapsWith v (some (.Subscript (.Name x p) k pos')) pos.line X.env = pure false := by rfl) : RunS X δ (.Assign [.Subscript (.Name x p) k pos'] v pos) Φ := fun σ G H m D r => by
  refine PS.w (ps_dput (by have := g.hu; omega) (peName hn) peW peW hs) (h σ G H m _ fun d δ1 vv G1 H1 h1 m1 r1 f1 => ?_)
  obtain ⟨ps, kk, h3, hk, hz, hp⟩ := h1
  obtain ⟨_, ev0, _⟩ := m1.atT h3
  refine ⟨.ref q, ev0, oneP m1 hk fun y G2 H2 m2 r2 f2 => ?_⟩
  obtain ⟨kvs, ev, hH, rk, g0⟩ := m2.atT h3
  obtain ⟨m3, f3⟩ := m2.wrT h3 (rk.put kk (r1.mono f2.gg))
  cases r2 with
  | @tup c ys _ gc rc =>
    have e2 := rc.keyVs
    subst e2
    exact ⟨q, _, rfl, .t hH (m2.wd.tupH gc) (by rw [rk.length]; exact small1000 hz), m3.nxOf (f1.trans ((Ext.up f2 _).trans f3)) r hp⟩
/-- x[k] += v, ints -/
theorem RunS.augK {ps : List (Dat × Dat)} {dk : Dat} {kk : L2.Key} {n j : Int} (g : Gx X) (hi : δ[i]? = some (.ow q (.d (.dict ps)))) (hk : EvP X δ k dk) (hkk : KeyIs dk kk) (hd : dlook ps kk = some (.int n)) (hv : EvP X δ v (.int j)) (hz : ps.length ≤ 1000)
    {op : Operator} {f : Int → Int → Int} (hop : InOp X op fun x y H Q => ∃ i j, x = .int i ∧ y = .int j ∧ Q (.int (f i j)) H) (hp : Φ (.nx (δ.set i (.ow q (.d (.dict (dputK ps kk (.int (f n j)))))))))
    (hn : NameAt X i x := by exact ⟨rfl, by first | exact Or.inl rfl | exact Or.inr (Or.inl rfl) | exact Or.inr (Or.inr rfl), by decide, by decide⟩)
    (ha : ∀ ov iv new, augStore k ov iv new = (do holding [new, ov, iv] (setItem ov iv new); release [new, ov, iv] []; pure .next) := by intros; rfl) : RunS X δ (.AugAssign (.Subscript (.Name x p) k pos') op v pos) Φ := fun σ G H m D r => by
  obtain ⟨_, ev0, _⟩ := m.atK hi
  refine PS.w (ps_daug (by have := g.hu; omega) (peName hn) peW peW hop ha) ⟨.ref q, ev0, oneP m hk fun y G2 H2 m2 r2 f2 => ?_⟩
  obtain ⟨kvs, ev, hH, rk, g0⟩ := m2.atK hi
  rw [hkk.v r2]
  rcases rk.look kk with ⟨vv, d', e1, e2, r3⟩ | ⟨_, e2⟩
  · rw [hd] at e2
    cases e2
    refine ⟨q, vv, rfl, .inl ⟨kvs, kk, .inl hH, rfl, e1.symm⟩, oneP m2 hv fun y3 G3 H3 m3 r4 f3 => ?_⟩
    cases r3
    cases r4
    obtain ⟨kvs3, ev3, hH3, rk3, g3⟩ := m3.atK hi
    obtain ⟨m4, f4⟩ := m3.wrK hi (rk3.put kk (.int (f n j)))
    exact ⟨n, j, rfl, rfl, _, .k hH3 (by rw [rk3.length]; exact small1000 hz), m4.nxOf ((Ext.up f2 _).trans ((Ext.up f3 _).trans f4)) r hp⟩
  · rw [hd] at e2
    cases e2
/-! lists of one's own: an item written -/
theorem ixN_pos {n j : Nat} (h : j < n) : ixN n (j : Int) = some j := by
  unfold ixN
  first
    | (simp; omega)
    | (split <;> first | omega | (simp; omega))
theorem RunS.setL {as : List Dat} {j : Nat} (h : EvI X δ v fun d δ1 => ∃ as, δ1[i]? = some (.ow q (.d (.list as))) ∧ EvP X δ1 k (.int (j : Nat)) ∧ j < as.length ∧ Φ (.nx (δ1.set i (.ow q (.d (.list (as.set j d))))))) (hn : NameAt X i x := by exact ⟨rfl, by first | exact Or.inl rfl | exact Or.inr (Or.inl rfl) | exact Or.inr (Or.inr rfl), by decide, by decide⟩)
    (hs : swapsWithSole [.Subscript (.Name x p) k pos'] v pos.line X.env = pure false := by rfl) (hw : swappedStores [.Subscript (.Name x p) k pos'] v X.env = pure none := by rfl) (h1 : (assignEach [.Subscript (.Name x p) k pos'] X.env).map (·.2) = [assign (.Subscript (.Name x p) k pos') X.env] := by rfl)
    (ha : ∀ z, assign (.Subscript (.Name x p) k pos') X.env z = (do
      let ov ← holding [z] (eval (.Name x p) X.env)
      let iv ← holding [z, ov] (eval k X.env)
      standAt pos'
      holding [z, ov, iv] (setItem ov iv z)
      release [z, ov, iv] []) := by intro _; rfl) : RunS X δ (.Assign [.Subscript (.Name x p) k pos'] v pos) Φ := fun σ G H m D r => by
  refine PS.w (ps_asg peW (pg_sub (peName hn) peW set_list ha) hs hw h1) (h σ G H m _ fun d δ1 vv G1 H1 h1 m1 r1 f1 => ?_)
  obtain ⟨as, h3, hk, hj, hp⟩ := h1
  obtain ⟨_, ev0, _⟩ := m1.atL h3
  refine ⟨.ref q, ev0, oneP m1 hk fun y G2 H2 m2 r2 f2 => ?_⟩
  obtain ⟨xs, ev, hH, rk, g0⟩ := m2.atL h3
  cases r2
  obtain ⟨m3, f3⟩ := m2.wrL h3 (RpA.set (r1.mono f2.gg) j rk)
  exact ⟨q, xs, j, j, rfl, rfl, hH, ixN_pos (by rw [rk.length]; exact hj), m3.nxOf (f1.trans ((Ext.up f2 _).trans f3)) r hp⟩
theorem get_list : PGet X fun x y H Q => ∃ p xs, ∃ j : Nat, ∃ v, x = .ref p ∧ y = .int (j : Nat) ∧ H p = some (.lst xs) ∧ xs[j]? = some v ∧ Q v H := by
  intro pins s σ H o i ov iv Q I ro ri h
  obtain ⟨p, xs, j, v, rfl, rfl, hp, hj, qq⟩ := h
  cases ro
  obtain ⟨t, rfl⟩ := ri
  obtain ⟨its, rv, pl, hz⟩ := I.list (SqL.of hp)
  obtain ⟨w, ew, rw'⟩ := rv.get hj
  have hlt : j < xs.length := (List.getElem?_eq_some_iff.mp hj).1
  have hn := line63
  refine wpAny_getItem_list pl.isList (by omega) (by omega) (by simpa using ew) ⟨v, H, I, rw', qq⟩
theorem RunS.augL {as : List Dat} {j : Nat} {n c : Int} (hi : δ[i]? = some (.ow q (.d (.list as)))) (hk : EvP X δ k (.int (j : Nat))) (hj : as[j]? = some (.int n)) (hv : EvP X δ v (.int c)) (hp : Φ (.nx (δ.set i (.ow q (.d (.list (as.set j (.int (n + c)))))))))
    (hn : NameAt X i x := by exact ⟨rfl, by first | exact Or.inl rfl | exact Or.inr (Or.inl rfl) | exact Or.inr (Or.inr rfl), by decide, by decide⟩)
    (ha : ∀ ov iv new, augStore k ov iv new = (do holding [new, ov, iv] (setItem ov iv new); release [new, ov, iv] []; pure .next) := by intros; rfl) : RunS X δ (.AugAssign (.Subscript (.Name x p) k pos') .Add v pos) Φ := fun σ G H m D r => by
  obtain ⟨_, ev0, _⟩ := m.atL hi
  refine PS.w (ps_augS (peName hn) peW get_list peW ip_add set_list ha) ⟨.ref q, ev0, oneP m hk fun y G2 H2 m2 r2 f2 => ?_⟩
  obtain ⟨xs, ev, hH, rk, g0⟩ := m2.atL hi
  cases r2
  obtain ⟨vv, e1, rv⟩ := rk.getR hj
  cases rv
  refine ⟨q, xs, j, _, rfl, rfl, hH, e1, oneP m2 hv fun y3 G3 H3 m3 r3 f3 => ?_⟩
  cases r3
  obtain ⟨xs3, ev3, hH3, rk3, g3⟩ := m3.atL hi
  obtain ⟨m4, f4⟩ := m3.wrL hi (RpA.set (.int (n + c)) j rk3)
  exact ⟨n, c, rfl, rfl, q, xs3, j, j, rfl, rfl, hH3, ixN_pos (by rw [rk3.length]; exact (List.getElem?_eq_some_iff.mp hj).1), m4.nxOf ((Ext.up f2 _).trans ((Ext.up f3 _).trans f4)) r hp⟩
/-- x += v, ints -/
theorem RunS.augI {n j : Int} (hi : δ[i]? = some (.im (.int n))) (hv : EvP X δ v (.int j)) {op : Operator} {f : Int → Int → Int} (hop : PIp X op (ipI f)) (hp : Φ (.nx (δ.set i (.im (.int (f n j)))))) (hN : NamePut X i x := by exact ⟨by decide +kernel, rfl, by first | exact Or.inl rfl | exact Or.inr rfl, by first | exact .inl rfl | exact .inr rfl⟩) :
    RunS X δ (.AugAssign (.Name x pos') op v pos) Φ := fun σ G H m D r => by
  obtain ⟨vv, ev, y, ey, ry⟩ := m.get hi
  subst ey
  cases ry
  refine PS.w (ps_aug hN.1 hN.2.1 hN.2.2.1 peW hop hN.2.2.2) ⟨_, ev, oneP m hv fun y G2 H2 m2 r2 f2 => ?_⟩
  cases r2
  refine ⟨n, j, rfl, rfl, r.nx _ _ G2 H2 hp ((m2.im (.int (f n j))).put i) ((Ext.up f2 _).less fun b hb => (feet_set hb).resolve_right fun z => absurd (show b ∈ ([] : List Addr) from z) List.not_mem_nil)⟩
/-! while -/
theorem RunS.while_ {c : Expr} {body : List Stmt} (I : Nat → List Cell → Prop) (n : Nat) (h0 : I n δ)
    (h : ∀ n δ1, I n δ1 → EvT X δ1 c fun t δ2 => if t = true then Run X δ2 body (turnPost Φ fun δ3 => ∃ k, k < n ∧ I k δ3) else Φ (.nx δ2))
    (hp : PassesOwn (model X.prog X.w) X.A X.env X.xe := by first | exact PassesOwn.never | exact po_of rfl) : RunS X δ (.While c body [] pos) Φ := fun σ G H m D r => by
  refine PS.w (ps_while hp ptW pssW) ⟨fun k σ' H' => ∃ G' δ', Mt X.K G' H' σ' δ' ∧ I k δ' ∧ Fr (feet δ) G H (feet δ') G' H', ⟨n, G, δ, m, h0, Fr.refl _ _ _⟩, ?_⟩
  rintro k σ1 H1 ⟨G1, δ1, m1, h1, f1⟩
  refine h k δ1 h1 σ1 G1 H1 m1 _ fun t δ2 G2 H2 h2 m2 f2 => ?_
  have f12 := f1.trans f2
  cases t with
  | false =>
    rw [if_neg Bool.false_ne_true] at h2 ⊢
    exact r.nx δ2 σ1 G2 H2 h2 m2 f12
  | true =>
    rw [if_pos rfl] at h2 ⊢
    refine ⟨fun σ' H' => ∃ k', k' < k ∧ ∃ G' δ', Mt X.K G' H' σ' δ' ∧ I k' δ' ∧ Fr (feet δ) G H (feet δ') G' H', fun σ' H' z => z, h2 σ1 G2 H2 m2 _ ?_⟩
    have again : ∀ (δ3 : List Cell) (σ3 : SS) (G3 H3 : Hp), (∃ k', k' < k ∧ I k' δ3) → Mt X.K G3 H3 σ3 δ3 → Fr (feet δ2) G2 H2 (feet δ3) G3 H3 → ∃ k', k' < k ∧ ∃ G' δ', Mt X.K G' H3 σ3 δ' ∧ I k' δ' ∧ Fr (feet δ) G H (feet δ') G' H3 := fun δ3 σ3 G3 H3 ⟨k', hk, hI⟩ m3 f3 => ⟨k', hk, G3, δ3, m3, hI, f12.trans f3⟩
    exact ⟨again, fun δ3 σ3 G3 H3 h3 m3 f3 => r.nx δ3 σ3 G3 H3 h3 m3 (f12.trans f3), again, fun rr δ3 v σ3 G3 H3 h3 m3 f3 => r.rt rr δ3 v σ3 G3 H3 h3 m3 (f12.trans f3)⟩
end
end K94
end

/-! text KM -/
section
set_option Elab.async false
set_option linter.all false
set_option maxRecDepth 100000
set_option maxHeartbeats 4000000
set_option autoImplicit true
/-! comprehensions over data -/
namespace K94
open PySem PySem.Spec PyProof.Rows L2

def wipeC (δ : List Cell) : List Nat → List Cell
  | [] => δ
  | v :: vs => (wipeC δ vs).set v .no
theorem wipeGet (σ : SS) (i : Nat) : ∀ vs : List Nat, (wipe σ vs)[i]? = if i ∈ vs then (σ[i]?).map (fun _ => Option.none) else σ[i]?
  | [] => by simp [wipe]
  | v :: vs => by
    have ih := wipeGet σ i vs
    unfold wipe
    by_cases e : v = i
    · subst e
      rw [List.getElem?_set, if_pos rfl, if_pos List.mem_cons_self, wipe_length]
      by_cases h : v < σ.length
      · rw [if_pos h, List.getElem?_eq_getElem h]; rfl
      · rw [if_neg h, List.getElem?_eq_none (by omega)]; rfl
    · rw [List.getElem?_set, if_neg e, ih]
      have : (i ∈ v :: vs) ↔ i ∈ vs := ⟨fun h => (List.mem_cons.mp h).resolve_left fun z => e z.symm, fun h => List.mem_cons_of_mem _ h⟩
      simp only [this]
theorem wipeTwice (σ : SS) (vs : List Nat) : wipe (wipe σ vs) vs = wipe σ vs := List.ext_getElem? fun i => by
  rw [wipeGet, wipeGet]
  split
  · cases σ[i]? <;> rfl
  · rfl
theorem wipeSet {σ : SS} {i : Nat} {v : Option V} {vs : List Nat} (h : i ∈ vs) : wipe (σ.set i v) vs = wipe σ vs := List.ext_getElem? fun j => by
  rw [wipeGet, wipeGet]
  by_cases e : i = j
  · subst e
    rw [if_pos h, if_pos h, List.getElem?_set, if_pos rfl]
    by_cases z : i < σ.length
    · rw [if_pos z, List.getElem?_eq_getElem z]; rfl
    · rw [if_neg z, List.getElem?_eq_none (by omega)]
  · rw [List.getElem?_set, if_neg e]
section
variable {K : PySem.W.Frag} {G H G' H' : Hp} {σ : SS} {δ : List Cell}
theorem Mt.wipe1 (m : Mt K G H σ δ) (i : Nat) : Mt K G H (σ.set i Option.none) (δ.set i .no) := ⟨m.wd, pairedSet trivial i m.at_, pwSet m.sep (fun c _ => apart_no c) i⟩
theorem Mt.wipe (m : Mt K G H σ δ) : ∀ vs : List Nat, Mt K G H (L2.wipe σ vs) (wipeC δ vs)
  | [] => m
  | v :: vs => (m.wipe vs).wipe1 v
theorem feetWipe : ∀ {vs : List Nat} {b : Addr}, b ∈ feet (wipeC δ vs) → b ∈ feet δ
  | [], _, h => h
  | _ :: vs, _, h => feetWipe (feet_no h)
/-- a new object of one's own beside -/
theorem Fr.fresh {D : Addr} {u : HO} (w : Wd G H) (n : H D = none) : Fr [] G H [D] G (upd H D u) where
  gg := Le.refl G
  hh := fun b v e _ => by rw [upd_ne (ne_of_none e n)]; exact e
  ff := fun b h => .inr (by rw [List.mem_singleton.mp h]; exact n)
  nn := fun b v e g _ => g
/-- .. given away -/
theorem Fr.giveD {D : Addr} {u : HO} {G1 H1 : Hp} (f : Fr [] G1 H1 [D] G H) (n : H1 D = none) (g : G D = none) : Ext G1 H1 (upd G D u) H where
  gg := f.gg.trans (Le.upd g)
  hh := f.hh
  ff := fun b h => absurd h List.not_mem_nil
  nn := fun b v e g0 nf => by
    rw [upd_ne (ne_of_none e n)]
    exact f.nn b v e g0 nf
theorem Mt.wrD (m : Mt K G H σ δ) {D : Addr} {u : HO} (g : G D = Option.none) (nt : ∀ xs, u ≠ .tup xs) (off : ∀ b ∈ feet δ, b ≠ D) : Mt K G (upd H D u) σ δ :=
  m.step (Fr.wr (u := u) g) (m.wd.own g nt) fun b hb h => off b hb (List.mem_singleton.mp h)
end
theorem lstNe (ys : List V) : ∀ xs, HO.lst ys ≠ HO.tup xs := fun _ z => nomatch z
theorem dkNe (ys : List (L2.Key × V)) : ∀ xs, HO.dK ys ≠ HO.tup xs := fun _ z => nomatch z
theorem dtNe (ys : List (List L2.Key × V)) : ∀ xs, HO.dT ys ≠ HO.tup xs := fun _ z => nomatch z
/-- a target of a block is given data; the block's names vs -/
def AsDV (X : Cx) (δ : List Cell) (tg : Expr) (d : Dat) (δ' : List Cell) (vs : List Nat) : Prop :=
  (∀ b ∈ feet δ', b ∈ feet δ) ∧ ∀ (σ : SS) (G H : Hp) (v : V), Mt X.K G H σ δ → Rp X.K G v d → ∀ Q : SS → Hp → Prop, (∀ σ', Mt X.K G H σ' δ' → wipe σ' vs = wipe σ vs → Q σ' H) → wpG X tg v σ H Q
/-- a clause's tests -/
def EvTs (X : Cx) (δ : List Cell) (ifs : List Expr) (b : Bool) : Prop :=
  match ifs with
  | [] => b = true
  | [c] => EvTP X δ c b
  | _ => False
def wpTs (X : Cx) (ifs : List Expr) : TT :=
  match ifs with
  | [] => tYes
  | [c] => wpT X c
  | _ => fun _ _ _ => False
theorem ptsW {X : Cx} {ifs : List Expr} : PTs X ifs (wpTs X ifs) := by
  match ifs with
  | [] => exact pts_nil
  | [c] => exact pts_one ptW
  | _ :: _ :: _ => exact ⟨fun _ _ _ _ _ _ h => h.elim⟩
theorem EvTs.run {X : Cx} {δ : List Cell} {ifs : List Expr} {b : Bool} (h : EvTs X δ ifs b) {σ : SS} {G H : Hp} (m : Mt X.K G H σ δ) {Q : Bool → Hp → Prop} (q : ∀ G' H', Wd G' H' → Ext G H G' H' → Q b H') : wpTs X ifs σ H Q := by
  match ifs, h with
  | [], h =>
    have e : b = true := h
    rw [e] at q
    exact q G H m.wd (Fr.refl _ _ _)
  | [c], h => exact (show EvTP X δ c b from h) σ G H m Q q
abbrev blkX (X : Cx) (scope : Scope) (s : Shared) (H : Hp) (C : Addr) (cl : List (Str × Addr)) (fp : List Addr) : Cx := X.blk s H scope (compEnvC scope cl C X.env) fp
def Bk (X : Cx) (scope : Scope) (P : Cx → Prop) : Prop := ∀ (s : Shared) (H : Hp) (C : Addr) (cl : List (Str × Addr)) (fp : List Addr), P (blkX X scope s H C cl fp)
def wgB (X : Cx) (scope : Scope) (tg : Expr) : TG := fun v σ H Q => Bk X scope fun X' => wpG X' tg v σ H Q
def wtB (X : Cx) (scope : Scope) (ifs : List Expr) : TT := fun σ H Q => Bk X scope fun X' => wpTs X' ifs σ H Q
def weB (X : Cx) (scope : Scope) (e : Expr) : TE := fun σ H Q => Bk X scope fun X' => wpE X' e σ H Q
section
variable {X : Cx} {scope : Scope} {s : Shared} {H : Hp} {C : Addr} {cl : List (Str × Addr)} {fp : List Addr} {e tg : Expr} {ifs : List Expr}
theorem pgB : PG (blkX X scope s H C cl fp) tg (wgB X scope tg) := ⟨fun pins s' σ H' v u Q I r h => h s H C cl fp pins s' u I r⟩
theorem peB : PE (blkX X scope s H C cl fp) e (weB X scope e) := ⟨fun pins s' σ H' Q I h => h s H C cl fp pins s' I⟩
theorem ptB : PTs (blkX X scope s H C cl fp) ifs (wtB X scope ifs) := ⟨fun pins s' σ H' Q I h => ptsW.run pins s' σ H' Q I (h s H C cl fp)⟩
theorem Gx.blk (g : Gx X) : Gx (blkX X scope s H C cl fp) := ⟨g.calm, g.hu, g.gd, g.sm⟩
end
/-- what a comprehension gives -/
def keptD (b : Dat → Bool) (r : Dat → Dat) (ds : List Dat) : List Dat := (ds.filter b).map r
section
variable {X : Cx} {δ : List Cell} {tg iter elt e : Expr} {ifs : List Expr} {scope : Scope} {own : List (Str × Nat)} {pos : Pos} {ds : List Dat} {f : Dat → List Cell} {b : Dat → Bool} {r : Dat → Dat}
/-- what is walked, from here -/
def HitAt (X : Cx) (δ : List Cell) (σ : SS) (G H : Hp) (tg iter : Expr) (ds : List Dat) : Prop :=
  ∀ R : It → Hp → Prop, (∀ (J : It) (S : Hp → Prop) (G' H' : Hp), Mt X.K G' H' σ δ → Ext G H G' H' → WalkD X.K J G' S ds → S H' → R J H') → wpI X tg iter σ H R
theorem lcP (ha : ∀ d ∈ ds, Bk X scope fun X' => AsDV X' (wipeC δ (own.map (·.2))) tg d (f d) (own.map (·.2)))
    (ht : ∀ d ∈ ds, Bk X scope fun X' => EvTs X' (f d) ifs (b d)) (he : ∀ d ∈ ds, b d = true → Bk X scope fun X' => EvP X' (f d) elt (r d)) (hl : ds.length ≤ 1000)
    {σ : SS} {G H : Hp} (m : Mt X.K G H σ δ) (hit : HitAt X δ σ G H tg iter ds) {Q : VK} (q : ∀ (v : V) (G' H' : Hp), Rp X.K G' v (.list (keptD b r ds)) → Wd G' H' → Ext G H G' H' → Q v H') :
    tLc (wpI X tg iter) (wgB X scope tg) (wtB X scope ifs) (weB X scope elt) (own.map (·.2)) σ H Q := by
  refine hit _ fun J S G1 H1 m1 ex1 w s1 D nD => ?_
  have offD : ∀ b ∈ feet (wipeC δ (own.map (·.2))), b ≠ D := fun b hb z => by
    obtain ⟨u, e⟩ := (m1.wipe _).all b hb
    rw [z, nD] at e; cases e
  have gD : G1 D = none := m1.wd.none nD
  have f0 : Fr [] G1 H1 [D] G1 (upd H1 D (.lst [])) := Fr.fresh m1.wd nD
  have resS : ∀ i d, ds[i]? = some d → keptD b r (ds.take (i + 1)) = if b d = true then keptD b r (ds.take i) ++ [r d] else keptD b r (ds.take i) := fun i d hd => by
    have hi := (List.getElem?_eq_some_iff.mp hd).1
    have e : ds.take (i + 1) = ds.take i ++ [d] := by
      rw [List.take_add_one, hd]; rfl
    unfold keptD
    rw [e, List.filter_append]
    cases hb : b d with
    | true => simp [hb]
    | false => simp [hb]
  refine ⟨fun i k H => k = ds.length - i ∧ i ≤ ds.length ∧ ∃ G xs, Mt X.K G H (wipe σ (own.map (·.2))) (wipeC δ (own.map (·.2))) ∧ Fr [] G1 H1 [D] G H ∧ H D = some (.lst xs) ∧ RpA X.K G xs (keptD b r (ds.take i)) ∧ G D = none ∧ S H,
    ⟨_, rfl, Nat.zero_le _, G1, [], (m1.wipe _).wrD gD (lstNe _) offD, f0, upd_same, .nil, gD, w.keeps _ G1 H1 _ G1 _ (Le.refl _) s1 f0 fun _ h => absurd h List.not_mem_nil⟩, ?_⟩
  rintro i k H2 ⟨rfl, hi, G2, xs, m2, f2, hD, rx, gD2, s2⟩
  by_cases hlt : i < ds.length
  · refine .inr ⟨w.goes i G2 H2 hlt f2.gg m2.wd s2, fun H' => i + 1 ≤ ds.length ∧ ∃ G xs, Mt X.K G H' (wipe σ (own.map (·.2))) (wipeC δ (own.map (·.2))) ∧ Fr [] G1 H1 [D] G H' ∧ H' D = some (.lst xs) ∧ RpA X.K G xs (keptD b r (ds.take (i + 1))) ∧ G D = none ∧ S H', fun H' h => ⟨ds.length - (i + 1), by omega, rfl, h.1, h.2⟩, fun x H' y => ?_⟩
    obtain ⟨d, G3, hd, rd, w3, ex3⟩ := w.yields i G2 H2 x H' hlt f2.gg m2.wd s2 y
    have hm := List.mem_of_getElem? hd
    intro sb Hb Cb clb fpb
    refine (ha d hm sb Hb Cb clb fpb).2 _ G3 H' x (m2.ext ex3 w3) rd _ fun σ4 m4 hw4 => ⟨hw4.trans (wipeTwice _ _), ?_⟩
    intro sb Hb Cb clb fpb
    refine (ht d hm sb Hb Cb clb fpb).run m4 fun G5 H5 w5 ex5 => ?_
    have ex35 := ex3.trans ex5
    have step : ∀ (G6 H6 : Hp) (ys : List V), Wd G6 H6 → Ext G2 H2 G6 H6 → RpA X.K G6 ys (keptD b r (ds.take (i + 1))) → ∀ H7 : Hp, (H7 = H6 ∧ ys = xs ∨ H7 = upd H6 D (.lst ys)) → i + 1 ≤ ds.length ∧ ∃ G xs, Mt X.K G H7 (wipe σ (own.map (·.2))) (wipeC δ (own.map (·.2))) ∧ Fr [] G1 H1 [D] G H7 ∧ H7 D = some (.lst xs) ∧ RpA X.K G xs (keptD b r (ds.take (i + 1))) ∧ G D = none ∧ S H7 := fun G6 H6 ys w6 ex6 ry H7 h7 => by
      have gD6 : G6 D = none := ex6.nn D _ hD gD2 List.not_mem_nil
      have m6 := m2.ext ex6 w6
      have f6 : Fr [] G1 H1 [D] G6 H6 := f2.trans (Ext.up ex6 [D])
      have s6 : S H6 := w.keeps _ G2 H2 _ G6 H6 f2.gg s2 ex6 fun _ h => absurd h List.not_mem_nil
      rcases h7 with ⟨rfl, rfl⟩ | rfl
      · exact ⟨hlt, G6, _, m6, f6, ex6.hh D _ hD List.not_mem_nil, ry, gD6, s6⟩
      · have fw : Fr [D] G6 H6 [D] G6 (upd H6 D (.lst ys)) := Fr.wr gD6
        exact ⟨hlt, G6, ys, m6.wrD gD6 (lstNe _) offD, f6.trans fw, upd_same, ry, gD6, w.keeps _ G6 H6 _ G6 _ f6.gg s6 fw fun b h => by rw [List.mem_singleton.mp h]; exact gD6⟩
    cases hb : b d with
    | false =>
      rw [if_neg Bool.false_ne_true]
      refine step G5 H5 xs w5 ex35 ?_ H5 (.inl ⟨rfl, rfl⟩)
      rw [resS i d hd, hb, if_neg Bool.false_ne_true]
      exact rx.mono ex35.gg
    | true =>
      rw [if_pos rfl]
      intro sb Hb Cb clb fpb
      refine he d hm hb sb Hb Cb clb fpb σ4 G5 H5 (m4.ext ex5 w5) _ fun v G6 H6 rv w6 ex6 => ?_
      have ex := ex35.trans ex6
      refine ⟨xs, ex.hh D _ hD List.not_mem_nil, ?_, step G6 H6 (xs ++ [v]) w6 ex ?_ _ (.inr rfl)⟩
      · rw [rx.length]
        refine small1000 (Nat.le_trans ?_ hl)
        unfold keptD
        rw [List.length_map]
        exact Nat.le_trans (List.length_filter_le _ _) (by rw [List.length_take]; omega)
      · rw [resS i d hd, hb, if_pos rfl]
        exact (rx.mono ex.gg).app (.cons rv .nil)
  · have e : i = ds.length := by omega
    subst e
    rw [List.take_length] at rx
    refine .inl ⟨w.stops G2 H2 f2.gg m2.wd s2, ?_⟩
    exact q (.ref D) (upd G2 D (.lst xs)) H2 (.lst upd_same (rx.mono (Le.upd gD2))) (m2.wd.give hD) (ex1.trans (f2.giveD nD gD2))
/-- [elt for tg in iter if ..] -/
theorem EvP.comp (hc : X.calm = true) (hN : X.N.Nodup) (ok : BlkOk X.N X.env.scope scope own) (hit : EvItP X δ tg iter ds) (ha : ∀ d ∈ ds, Bk X scope fun X' => AsDV X' (wipeC δ (own.map (·.2))) tg d (f d) (own.map (·.2)))
    (ht : ∀ d ∈ ds, Bk X scope fun X' => EvTs X' (f d) ifs (b d)) (he : ∀ d ∈ ds, b d = true → Bk X scope fun X' => EvP X' (f d) elt (r d)) (hl : ds.length ≤ 1000) (hs : ∀ x, foldedSetIterable iter X.env x = pure x := by intro _; rfl) :
    EvP X δ (.ListComp elt [⟨tg, iter, ifs, 0⟩] scope pos) (.list (keptD b r ds)) := fun σ G H m Q q =>
  PE.w (pe_lc hc hN piW ok (fun _ _ _ _ _ => pgB) (fun _ _ _ _ _ => ptB) (fun _ _ _ _ _ => peB) hs) (lcP ha ht he hl m (hit σ G H m) q)
theorem RunS.setComp {i : Nat} {y : Str} {py : Pos} {spos : Pos} {Φ : Out → Prop} (hc : X.calm = true) (hN : X.N.Nodup) (ok : BlkOk X.N X.env.scope scope own) (hit : EvItP X δ tg iter ds) (ha : ∀ d ∈ ds, Bk X scope fun X' => AsDV X' (wipeC δ (own.map (·.2))) tg d (f d) (own.map (·.2)))
    (ht : ∀ d ∈ ds, Bk X scope fun X' => EvTs X' (f d) ifs (b d)) (he : ∀ d ∈ ds, b d = true → Bk X scope fun X' => EvP X' (f d) elt (r d)) (hl : ds.length ≤ 1000) (hp : Φ (.nx (δ.set i (.im (.list (keptD b r ds))))))
    (hy : X.N[i]? = some y := by rfl) (hyl : X.env.scope.names.lookup y = some .local := by rfl) (hsw : swapsWith (.ListComp elt [⟨tg, iter, ifs, 0⟩] scope pos) (some (.Name y py)) spos.line X.env = pure true := by rfl) (hs : ∀ x, foldedSetIterable iter X.env x = pure x := by intro _; rfl) :
    RunS X δ (.Assign [.Name y py] (.ListComp elt [⟨tg, iter, ifs, 0⟩] scope pos) spos) Φ := fun σ G H m D p =>
  PS.w (ps_setLc hc hN hy hyl hsw piW ok (fun _ _ _ _ _ => pgB) (fun _ _ _ _ _ => ptB) (fun _ _ _ _ _ => peB) hs) (lcP ha ht he hl m (hit σ G H m) fun v G' H' rv w ex =>
    p.nx _ _ G' H' hp (((m.ext ex w).im rv).put i) ((Ext.up ex _).less fun b hb => (feet_set hb).resolve_right fun z => absurd (show b ∈ ([] : List Addr) from z) List.not_mem_nil))
/-! a block's targets -/
theorem noIm {l : List Cell} {i : Nat} {d : Dat} (x : Addr) (hx : x ∈ feet (l.set i (.im d))) : x ∈ feet l := (feet_set hx).resolve_right fun z => absurd (show x ∈ ([] : List Addr) from z) List.not_mem_nil
theorem AsDV.name {i : Nat} {x : Str} {d : Dat} {vs : List Nat} (hN : X.N.Nodup) (hv : i ∈ vs := by decide) (hi : X.N[i]? = some x := by rfl) (hx : Loc X.env.scope x := by first | exact Or.inl rfl | exact Or.inr rfl) (hf : X.fn x = true ∨ X.env.scope.names.lookup x = some .local := by first | exact .inl rfl | exact .inr rfl) :
    AsDV X δ (.Name x pos) d (δ.set i (.im d)) vs := ⟨fun b hb => noIm b hb, fun σ G H v m r Q q => PG.w (pg_name hN hi hx hf) (q _ ((m.im r).put i) (wipeSet hv))⟩
theorem AsDV.pair {i j : Nat} {x y : Str} {d1 d2 : Dat} {kk : Nat} {p1 p2 : Pos} {vs : List Nat} (hc : X.calm = true) (hN : X.N.Nodup) (hv : i ∈ vs := by decide) (hv2 : j ∈ vs := by decide) (hi : X.N[i]? = some x := by rfl) (hj : X.N[j]? = some y := by rfl) (hx : Loc X.env.scope x := by first | exact Or.inl rfl | exact Or.inr rfl) (hy : Loc X.env.scope y := by first | exact Or.inl rfl | exact Or.inr rfl)
    (hf : X.fn x = true ∨ X.env.scope.names.lookup x = some .local := by first | exact .inl rfl | exact .inr rfl) (hf2 : X.fn y = true ∨ X.env.scope.names.lookup y = some .local := by first | exact .inl rfl | exact .inr rfl)
    (hs : (assignEach [.Name x p1, .Name y p2] X.env).map (·.2) = assign (.Name x p1) X.env :: (assignEach [.Name y p2] X.env).map (·.2) := by rfl) (hs2 : (assignEach [.Name y p2] X.env).map (·.2) = assign (.Name y p2) X.env :: (assignEach [] X.env).map (·.2) := by rfl)
    (hn : (assignEach [.Name x p1, .Name y p2] X.env).length = 2 := by rfl) (hst : (assignEach [.Name x p1, .Name y p2] X.env).findIdx? (·.1) = none := by rfl) :
    AsDV X δ (.Tuple [.Name x p1, .Name y p2] kk pos) (.tuple [d1, d2]) ((δ.set i (.im d1)).set j (.im d2)) vs := by
  refine ⟨fun b hb => noIm b (noIm b hb), fun σ G H v m r Q q => ?_⟩
  cases r with
  | tup ga ra =>
    obtain ⟨v1, v2, rfl, r1, r2⟩ := rpa2 ra
    refine PG.w (pg_tup hc (pgs_cons (pg_name hN hi hx hf) (pgs_cons (pg_name hN hj hy hf2) pgs_nil hs2) hs) hn hst) ⟨_, _, rfl, SqT.of (m.wd.tupH ga), rfl, v1, [v2], rfl, v2, [], rfl, rfl, ?_⟩
    exact q _ ((((m.im r1).put i).im r2).put j) (by rw [wipeSet hv2, wipeSet hv])
end
end K94
end

/-! text KN -/
section
set_option Elab.async false
set_option linter.all false
set_option maxRecDepth 100000
set_option maxHeartbeats 4000000
set_option autoImplicit true
/-! calls of one's own functions -/
namespace K94
open PySem PySem.Spec PyProof.Rows L2

abbrev SpG := List V → Hp → VK → Prop
def Eno : XK := fun _ _ _ => False
/-- what the caller is told -/
def Told (outer : List Env) (P : Program) (w : World) (H : Hp) (s : Shared) (Q : VK) : Result → Shared → Prop := CR CX0 outer P w H s Q Eno
/-- a def's promise, no repr under way -/
structure FnG (P : Program) (w : World) (K : PySem.W.Frag) (mg : Str → Option Value) (base : Heap) (k : Nat) (f : Addr) (fd : FuncData) (ps : List Str) (sp : SpG) : Prop where
  many : ∀ vs H Q, sp vs H Q → vs.length = ps.length
  runs : ∀ (A : Around) (outer : List Env) (s : Shared) (H : Hp) (args : Args) (us : List Value) (vs : List V) (Q : VK), Room k A → A.guards = some [] → Env0 P w K mg base A outer s H → BindsTo s fd args (ps.zip us) → Vals vs us → sp vs H Q →
    codeAny (model P w) A (.call (.ref f) args) (Told outer P w H s Q) s
section
variable {P : Program} {w : World} {K : PySem.W.Frag} {mg : Str → Option Value} {base : Heap}
theorem FnG.up {j k : Nat} {f : Addr} {fd : FuncData} {ps : List Str} {sp : SpG} (F : FnG P w K mg base j f fd ps sp) (h : j ≤ k) : FnG P w K mg base k f fd ps sp :=
  ⟨F.many, fun A outer s H args us vs Q hr => F.runs A outer s H args us vs Q (hr.mono h)⟩
/-- by its body -/
theorem FnG.body {x qual : Str} {params : Arguments} {body : List Stmt} {scope : Scope} {f : Addr} {fd : FuncData} {N ps : List Str} {k : Nat} {sp : SpG} (F : FunD K x qual params body scope [] [] f fd) (S : FnScope N ps scope)
    (many : ∀ vs H Q, sp vs H Q → vs.length = ps.length)
    (h : ∀ (cdv : Value) (A : Around) (outer : List Env) (s : Shared) (H : Hp) (vs : List V) (Q : VK), Room k (A.deeper (envOfC qual scope s.heap.objs.size f cdv)) → A.guards = some [] → sp vs H Q →
      wpSs (cxOf CX0 P w K mg base N qual scope f cdv A outer s H Eno) body (start N vs) H { nx := fun _ H' => Q .non H', rt := Q }) : FnG P w K mg base (k + 1) f fd ps sp := by
  obtain ⟨oc, od, dV, kV, doc, pm, an, cdv, ct, osl, rfl, lk, hcd, _, _⟩ := F.ex
  refine ⟨many, fun A outer s H args us vs Q hr gd e0 hb rv hsp => ?_⟩
  have inK : K.In s.heap := e0.mod.kin.keeps fun b o e => (e0.bs b o e).1
  have noLim : s.heap.NoLimit := e0.mod.nolimit.keeps fun b o e => (e0.bs b o e).1
  have kinds : ∀ y ∈ ps.zip us, scope.names.lookup y.1 = some .local ∨ (scope.names.lookup y.1 = some .cell ∧ ((cellsFrom (s.heap.objs.size + 1) scope.names []).lookup y.1).isSome = true) := fun ⟨n, v⟩ hy =>
    (S.par n (List.of_mem_zip hy).1).elim .inl fun z => .inr ⟨z, PySem.W.cellsFrom_some _ _ _ (.inl z)⟩
  refine codeAny_call_function hr.depth (inK _ _ lk) rfl S.co S.gen rfl (PySem.W.codeRec_of inK hcd) (hb _ _ _ _ ?_)
  refine wpAny_newFunctionEnv_cells S.kind kinds fun env he s1 hx => ?_
  subst he
  refine ⟨noLim.keeps hx.toInCall.keep, codeAny_func ?_⟩
  have I0 : Inv (cxOf CX0 P w K mg base N qual scope f cdv A outer s H Eno) [] (start N vs) H s1 := inv_start S hr.hd e0 (many _ _ _ hsp) rv hx
  refine wpAny_mono (h cdv A outer s H vs Q (hr.deeper _) gd hsp [] s1 I0) (fun fl s' hs => ?_) fun e s' hs => hs
  have told : ∀ {σ' : SS} {H' : Hp} {v : V} {u : Value}, Inv (cxOf CX0 P w K mg base N qual scope f cdv A outer s H Eno) [] σ' H' s' → RelV v u → Q v H' → CE outer P w H s Q u s' :=
    fun {σ' H' v u} J r q => ⟨v, H', J.os, J.bare, J.base, J.hok, r, q⟩
  cases fl with
  | next =>
    obtain ⟨σ', H', J, q⟩ := hs
    exact told (v := V.non) (u := Value.none) J rfl q
  | ret u =>
    obtain ⟨v, σ', H', J, r, q⟩ := hs
    exact told J r q
  | brk => exact hs.elim fun _ z => z.elim fun _ z => z.2.elim
  | cont => exact hs.elim fun _ z => z.elim fun _ z => z.2.elim
/-- a function of that name -/
def Has (P : Program) (w : World) (K : PySem.W.Frag) (mg : Str → Option Value) (base : Heap) (k : Nat) (x : Str) (sp : SpG) : Prop :=
  ∃ f fd ps, FnG P w K mg base k f fd ps sp ∧ mg x = some (.ref f) ∧ PySem.W.keepIn K (.ref f) = true ∧ Binds K fd ps []
end
section
variable {X : Cx} {k : Nat} {f : Addr} {fd : FuncData} {ps : List Str} {sp : SpG} {x : Str} {p pos : Pos} {e : Expr} {es : List Expr} {t : TA}
theorem runFnG {pins : List (Addr × Obj)} {σ : SS} {H : Hp} {s : Shared} {Q : VK} {us : List Value} {vs : List V} (F : FnG X.prog X.w X.K X.mg X.base k f fd ps sp) (hr : Room k X.A) (gd : X.A.guards = some []) (hb : Binds X.K fd ps [])
    (I : Inv X pins σ H s) (r : Vals vs us) (h : sp vs H Q) : wpAny (model X.prog X.w) X.A (call (.ref f) us) (EP X pins σ Q) X.xe s := by
  have hl : us.length = ps.length := by rw [← r.length]; exact F.many _ _ _ h
  have b := hb s us I.kIn (by rw [List.append_nil]; exact hl)
  rw [List.append_nil] at b
  refine wpAny_call (codeAny_mono (F.runs X.A X.stack s H ⟨us, []⟩ us vs Q hr gd I.env0 b r h) fun rr s' hq => ?_)
  cases rr with
  | error e => exact False.elim hq
  | ok fl =>
    cases fl with
    | ret u => exact I.after hq
    | next => exact False.elim hq
    | brk => exact False.elim hq
    | cont => exact False.elim hq
theorem peCallG (F : FnG X.prog X.w X.K X.mg X.base k f fd ps sp) (hr : Room k X.A) (gd : X.A.guards = some []) (hm : X.mg x = some (.ref f)) (hk : PySem.W.keepIn X.K (.ref f) = true) (hb : Binds X.K fd ps [])
    (ha : PA X (e :: es) t) (hg : Gl X x := by rfl) (hdb : (x == ("__debug__" : Str)) = false := by decide) (he : starEach (e :: es) X.env = (false, eval e X.env) :: starEach es X.env := by rfl) (hpl : (backTo pos (starEach es X.env)).any (·.1) = false := by rfl) :
    PE X (.Call (.Name x p) (e :: es) [] pos) (fun σ H Q => t σ H fun vs H1 => sp vs H1 Q) := by
  refine ⟨fun pins s σ H Q I h => wpAny_Call_Name_kw (ld_glob I hg hm ?_ hdb)⟩
  exact PySem.W.callWith_K (h₀ := X.base) I.ok.mod.kin hk (thn (ha.run pos pins s σ H _ I h) fun us s1 ⟨vs, H1, I1, r, q⟩ => ⟨I1.kIn, runFnG F hr gd hb I1 r q⟩) he hpl
end
/-! ### what a function keeps, by data -/
/-- data to data; nothing is touched -/
def PurSp (K : PySem.W.Frag) (R : List Dat → Dat → Prop) : SpG := fun vs H Q => ∃ G ds d, R ds d ∧ Wd G H ∧ RpA K G vs ds ∧ ∀ v G' H', Rp K G' v d → Wd G' H' → Ext G H G' H' → Q v H'
def SameFoot (o o' : Ow) : Prop := ∀ a, foot a o' = foot a o
/-- the first argument is an object of the caller's own, and stays so -/
def BorSp (K : PySem.W.Frag) (R : Ow → List Dat → (Dat → Ow → Prop) → Prop) : SpG := fun vs H Q => ∃ G a o ds Φ vs', vs = .ref a :: vs' ∧ R o ds Φ ∧ Wd G H ∧ OwAt K G H a o ∧ RpA K G vs' ds ∧
  ∀ d o' v G' H', Φ d o' → SameFoot o o' → Rp K G' v d → OwAt K G' H' a o' → Wd G' H' → Fr (foot a o) G H (foot a o') G' H' → Q v H'
/-- a new object -/
def NewSp (K : PySem.W.Frag) (R : List Dat → (Addr → Ow → Prop) → Prop) : SpG := fun vs H Q => ∃ G ds Φ, R ds Φ ∧ Wd G H ∧ RpA K G vs ds ∧ ∀ a o G' H', Φ a o → OwAt K G' H' a o → Wd G' H' → Fr [] G H (foot a o) G' H' → Q (.ref a) H'
/-- the cells at the entry -/
def entry (N : List Str) (cs : List Cell) : List Cell := cs ++ List.replicate (N.length - cs.length) .no
section
variable {K : PySem.W.Frag} {G H G' H' : Hp}
theorem feetNo : ∀ n, feet (List.replicate n Cell.no) = []
  | 0 => rfl
  | n + 1 => by rw [List.replicate_succ, feet_cons, feetNo n]; rfl
theorem feetIms : ∀ ds : List Dat, feet (ds.map Cell.im) = []
  | [] => rfl
  | d :: ds => by rw [List.map_cons, feet_im, feetIms ds]
theorem entryAt {N : List Str} {vs : List V} {cs : List Cell} (r : Paired (fun v c => CellOk K G H (some v) c) vs cs) : Paired (fun v c => CellOk K G H v c) (start N vs) (entry N cs) := by
  unfold L2.start entry
  rw [r.length]
  refine pairedApp ?_ ?_
  · have : ∀ {vs : List V} {cs : List Cell}, Paired (fun v c => CellOk K G H (some v) c) vs cs → Paired (fun v c => CellOk K G H v c) (vs.map some) cs := by
      intro vs cs p
      induction p with
      | nil => exact .nil
      | cons a _ ih => exact .cons a ih
    exact this r
  · have : ∀ n, Paired (fun v c => CellOk K G H v c) (List.replicate n Option.none) (List.replicate n Cell.no) := by
      intro n
      induction n with
      | zero => exact .nil
      | succ n ih => exact .cons trivial ih
    exact this _
theorem rpaCells : ∀ {vs : List V} {ds : List Dat}, RpA K G vs ds → Paired (fun v c => CellOk K G H (some v) c) vs (ds.map Cell.im)
  | _, _, .nil => .nil
  | _, _, .cons r t => .cons ⟨_, rfl, r⟩ (rpaCells t)
theorem sepEmpty {δ : List Cell} (h : feet δ = []) : δ.Pairwise Apart := by
  refine List.pairwise_iff_getElem.mpr fun i j hi hj _ b hb _ => ?_
  have : b ∈ feet δ := mem_feet.mpr ⟨_, List.getElem_mem hi, hb⟩
  rw [h] at this
  exact absurd this List.not_mem_nil
theorem feetEntry {N : List Str} {cs : List Cell} : feet (entry N cs) = feet cs := by
  unfold entry
  rw [feet_app, feetNo, List.append_nil]
end
/-- a body that ends with data -/
def PurOut (d : Dat) : Out → Prop
  | .rt r _ => r = .im d
  | .nx _ => d = .none
  | _ => False
def BorOut (a : Addr) (o : Ow) (Φ : Dat → Ow → Prop) : Out → Prop
  | .rt r δ' => ∃ d o', r = .im d ∧ δ'[0]? = some (.ow a o') ∧ SameFoot o o' ∧ Φ d o'
  | .nx δ' => ∃ o', δ'[0]? = some (.ow a o') ∧ SameFoot o o' ∧ Φ .none o'
  | _ => False
def NewOut (Φ : Addr → Ow → Prop) : Out → Prop
  | .rt r _ => ∃ a o, r = .ow a o ∧ Φ a o
  | _ => False
section
variable {P : Program} {w : World} {K : PySem.W.Frag} {mg : Str → Option Value} {base : Heap} {x qual : Str} {params : Arguments} {body : List Stmt} {scope : Scope} {f : Addr} {fd : FuncData} {N ps : List Str} {k : Nat}
theorem gxOf {cdv : Value} {A : Around} {outer : List Env} {s : Shared} {H : Hp} (sm : ∃ o, K.lookup sysModules = some o ∧ o.cls = .type "dict") (hr : Room k (A.deeper (envOfC qual scope s.heap.objs.size f cdv))) (gd : A.guards = some []) : Gx (cxOf CX0 P w K mg base N qual scope f cdv A outer s H Eno) :=
  ⟨rfl, by have := hr.un; show (A.deeper _).units + 200 < cLine; omega, gd, sm⟩
theorem FnG.pur {R : List Dat → Dat → Prop} (F : FunD K x qual params body scope [] [] f fd) (S : FnScope N ps scope) (sm : ∃ o, K.lookup sysModules = some o ∧ o.cls = .type "dict") (many : ∀ ds d, R ds d → ds.length = ps.length)
    (h : ∀ (ds : List Dat) (d : Dat), R ds d → ∀ (cdv : Value) (A : Around) (outer : List Env) (s : Shared) (H : Hp), Gx (cxOf CX0 P w K mg base N qual scope f cdv A outer s H Eno) → Room k (cxOf CX0 P w K mg base N qual scope f cdv A outer s H Eno).A →
      Run (cxOf CX0 P w K mg base N qual scope f cdv A outer s H Eno) (entry N (ds.map Cell.im)) body (PurOut d)) : FnG P w K mg base (k + 1) f fd ps (PurSp K R) := by
  refine FnG.body F S (fun vs H Q ⟨G, ds, d, hR, _, r, _⟩ => by rw [r.length]; exact many ds d hR) fun cdv A outer s H vs Q hr gd ⟨G, ds, d, hR, wd, r, q⟩ => ?_
  have g0 : feet (entry N (ds.map Cell.im)) = [] := by rw [feetEntry, feetIms]
  refine h ds d hR cdv A outer s H (gxOf sm hr gd) hr (start N vs) G H ⟨wd, entryAt (rpaCells r), sepEmpty g0⟩ _ ?_
  rw [g0]
  refine ⟨fun δ' σ' G' H' e m fr => ?_, fun _ _ _ _ e => e.elim, fun _ _ _ _ e => e.elim, fun rr δ' v σ' G' H' e m fr => ?_⟩
  · have e : d = .none := e
    subst e
    exact q .non G' H' .non m.wd (fr.less fun b h => absurd h List.not_mem_nil)
  · have e : rr = .im d := e
    subst e
    obtain ⟨z, ez, rz⟩ := m.rp
    cases ez
    exact q v G' H' rz m.wd (fr.less fun b h => absurd h List.not_mem_nil)
theorem FnG.bor {R : Ow → List Dat → (Dat → Ow → Prop) → Prop} (F : FunD K x qual params body scope [] [] f fd) (S : FnScope N ps scope) (sm : ∃ o, K.lookup sysModules = some o ∧ o.cls = .type "dict") (many : ∀ o ds Φ, R o ds Φ → ds.length + 1 = ps.length)
    (h : ∀ (a : Addr) (o : Ow) (ds : List Dat) (Φ : Dat → Ow → Prop), R o ds Φ → ∀ (cdv : Value) (A : Around) (outer : List Env) (s : Shared) (H : Hp), Gx (cxOf CX0 P w K mg base N qual scope f cdv A outer s H Eno) → Room k (cxOf CX0 P w K mg base N qual scope f cdv A outer s H Eno).A →
      Run (cxOf CX0 P w K mg base N qual scope f cdv A outer s H Eno) (entry N (.ow a o :: ds.map Cell.im)) body (BorOut a o Φ)) : FnG P w K mg base (k + 1) f fd ps (BorSp K R) := by
  refine FnG.body F S (fun vs H Q ⟨G, a, o, ds, Φ, vs', e, hR, _, _, r, _⟩ => by rw [e, List.length_cons, r.length]; exact many o ds Φ hR) fun cdv A outer s H vs Q hr gd ⟨G, a, o, ds, Φ, vs', e, hR, wd, oa, r, q⟩ => ?_
  subst e
  have g0 : feet (entry N (.ow a o :: ds.map Cell.im)) = foot a o := by rw [feetEntry, feet_cons, feetIms, List.append_nil]; rfl
  have sep : (entry N (.ow a o :: ds.map Cell.im)).Pairwise Apart := by
    show (Cell.ow a o :: (ds.map Cell.im ++ _)).Pairwise Apart
    have e0 : feet (ds.map Cell.im ++ List.replicate (N.length - (Cell.ow a o :: ds.map Cell.im).length) Cell.no) = [] := by rw [feet_app, feetIms, feetNo]; rfl
    refine List.pairwise_cons.mpr ⟨fun c hc b hb hb' => ?_, sepEmpty e0⟩
    have : b ∈ feet (ds.map Cell.im ++ List.replicate (N.length - (Cell.ow a o :: ds.map Cell.im).length) Cell.no) := mem_feet.mpr ⟨c, hc, hb'⟩
    rw [e0] at this
    exact absurd this List.not_mem_nil
  refine h a o ds Φ hR cdv A outer s H (gxOf sm hr gd) hr (start N (.ref a :: vs')) G H ⟨wd, entryAt (.cons ⟨rfl, oa⟩ (rpaCells r)), sep⟩ _ ?_
  rw [g0]
  refine ⟨fun δ' σ' G' H' e m fr => ?_, fun _ _ _ _ e => e.elim, fun _ _ _ _ e => e.elim, fun rr δ' v σ' G' H' e m fr => ?_⟩
  · obtain ⟨o', e0, sf, hΦ⟩ := (show ∃ o', δ'[0]? = some (.ow a o') ∧ SameFoot o o' ∧ Φ .none o' from e)
    obtain ⟨_, _, ok⟩ := m.get e0
    exact q .none o' .non G' H' hΦ sf .non ok.2 m.wd (fr.less fun b hb => feet_at e0 hb)
  · obtain ⟨d, o', er, e0, sf, hΦ⟩ := (show ∃ d o', rr = .im d ∧ δ'[0]? = some (.ow a o') ∧ SameFoot o o' ∧ Φ d o' from e)
    subst er
    obtain ⟨z, ez, rz⟩ := m.rp
    cases ez
    obtain ⟨_, _, ok⟩ := m.tail.get e0
    exact q d o' v G' H' hΦ sf rz ok.2 m.wd (fr.less fun b hb => by rw [feet_im]; exact feet_at e0 hb)
theorem FnG.new {R : List Dat → (Addr → Ow → Prop) → Prop} (F : FunD K x qual params body scope [] [] f fd) (S : FnScope N ps scope) (sm : ∃ o, K.lookup sysModules = some o ∧ o.cls = .type "dict") (many : ∀ ds d, R ds d → ds.length = ps.length)
    (h : ∀ (ds : List Dat) (Φ : Addr → Ow → Prop), R ds Φ → ∀ (cdv : Value) (A : Around) (outer : List Env) (s : Shared) (H : Hp), Gx (cxOf CX0 P w K mg base N qual scope f cdv A outer s H Eno) → Room k (cxOf CX0 P w K mg base N qual scope f cdv A outer s H Eno).A →
      Run (cxOf CX0 P w K mg base N qual scope f cdv A outer s H Eno) (entry N (ds.map Cell.im)) body (NewOut Φ)) : FnG P w K mg base (k + 1) f fd ps (NewSp K R) := by
  refine FnG.body F S (fun vs H Q ⟨G, ds, d, hR, _, r, _⟩ => by rw [r.length]; exact many ds d hR) fun cdv A outer s H vs Q hr gd ⟨G, ds, Φ, hR, wd, r, q⟩ => ?_
  have g0 : feet (entry N (ds.map Cell.im)) = [] := by rw [feetEntry, feetIms]
  refine h ds Φ hR cdv A outer s H (gxOf sm hr gd) hr (start N vs) G H ⟨wd, entryAt (rpaCells r), sepEmpty g0⟩ _ ?_
  rw [g0]
  refine ⟨fun _ _ _ _ e => e.elim, fun _ _ _ _ e => e.elim, fun _ _ _ _ e => e.elim, fun rr δ' v σ' G' H' e m fr => ?_⟩
  obtain ⟨a, o, er, hΦ⟩ := (show ∃ a o, rr = .ow a o ∧ Φ a o from e)
  subst er
  obtain ⟨ev, ok⟩ := m.head.1
  cases ev
  exact q a o G' H' hΦ ok m.wd (fr.less fun b hb => by rw [feet_cons]; exact List.mem_append_left _ hb)
end
/-! ### the caller -/
section
variable {X : Cx} {δ : List Cell} {k : Nat} {x : Str} {p pos : Pos} {e : Expr} {es : List Expr} {ds : List Dat} {d : Dat} {Ψ : Dat → List Cell → Prop} {Φ : Cell → List Cell → Prop}
theorem EvP.own {R : List Dat → Dat → Prop} (g : Gx X) (h : Has X.prog X.w X.K X.mg X.base k x (PurSp X.K R)) (hr : Room k X.A) (ha : EvAP X δ (e :: es) ds) (hR : R ds d)
    (hg : Gl X x := by rfl) (hdb : (x == ("__debug__" : Str)) = false := by decide) (he : starEach (e :: es) X.env = (false, eval e X.env) :: starEach es X.env := by rfl) (hpl : (backTo pos (starEach es X.env)).any (·.1) = false := by rfl) :
    EvP X δ (.Call (.Name x p) (e :: es) [] pos) d := fun σ G H m Q q => by
  obtain ⟨f, fd, ps, F, hm, hk, hb⟩ := h
  exact PE.w (peCallG F hr g.gd hm hk hb paW hg hdb he hpl) (ha σ G H m _ fun vs G' H' r w ex => ⟨G', ds, d, hR, w, r, fun v G2 H2 rv w2 ex2 => q v G2 H2 rv w2 (ex.trans ex2)⟩)
theorem EvI.own {R : List Dat → Dat → Prop} (g : Gx X) (h : Has X.prog X.w X.K X.mg X.base k x (PurSp X.K R)) (hr : Room k X.A) (ha : EvA X δ (e :: es) fun ds δ1 => ∃ d, R ds d ∧ Ψ d δ1)
    (hg : Gl X x := by rfl) (hdb : (x == ("__debug__" : Str)) = false := by decide) (he : starEach (e :: es) X.env = (false, eval e X.env) :: starEach es X.env := by rfl) (hpl : (backTo pos (starEach es X.env)).any (·.1) = false := by rfl) :
    EvI X δ (.Call (.Name x p) (e :: es) [] pos) Ψ := fun σ G H m Q q => by
  obtain ⟨f, fd, ps, F, hm, hk, hb⟩ := h
  exact PE.w (peCallG F hr g.gd hm hk hb paW hg hdb he hpl) (ha σ G H m _ fun ds δ1 vs G' H' ⟨d, hR, hΨ⟩ m1 r f1 => ⟨G', ds, d, hR, m1.wd, r, fun v G2 H2 rv w2 ex2 => q d δ1 v G2 H2 hΨ (m1.ext ex2 w2) rv (f1.trans (Ext.up ex2 _))⟩)
theorem EvI.ownB {R : Ow → List Dat → (Dat → Ow → Prop) → Prop} {i : Nat} {y : Str} {q : Addr} {py : Pos} (g : Gx X) (h : Has X.prog X.w X.K X.mg X.base k x (BorSp X.K R)) (hr : Room k X.A) (h0 : ∃ o, δ[i]? = some (.ow q o))
    (ha : EvA X δ es fun ds δ1 => ∃ o Ρ, δ1[i]? = some (.ow q o) ∧ R o ds Ρ ∧ ∀ d o', Ρ d o' → SameFoot o o' → Ψ d (δ1.set i (.ow q o')))
    (hn : NameAt X i y := by exact ⟨rfl, by first | exact Or.inl rfl | exact Or.inr (Or.inl rfl) | exact Or.inr (Or.inr rfl), by decide, by decide⟩)
    (hg : Gl X x := by rfl) (hdb : (x == ("__debug__" : Str)) = false := by decide) (he : starEach (.Name y py :: es) X.env = (false, eval (.Name y py) X.env) :: starEach es X.env := by rfl) (hpl : (backTo pos (starEach es X.env)).any (·.1) = false := by rfl) :
    EvI X δ (.Call (.Name x p) (.Name y py :: es) [] pos) Ψ := fun σ G H m Q qq => by
  obtain ⟨f, fd, ps, F, hm, hk, hb⟩ := h
  obtain ⟨o0, h0⟩ := h0
  obtain ⟨_, ev, rfl, _⟩ := m.get h0
  refine PE.w (peCallG F hr g.gd hm hk hb (pa_cons (peName hn) paW he) hg hdb he hpl) ⟨_, ev, ha σ G H m _ fun ds δ1 vs G1 H1 ⟨o, Ρ, h1, hR, hΨ⟩ m1 r f1 => ?_⟩
  obtain ⟨_, _, ok⟩ := m1.get h1
  refine ⟨G1, q, o, ds, Ρ, vs, rfl, hR, m1.wd, ok.2, r, fun d o' v G2 H2 hΡ sf rv oa w2 f2 => ?_⟩
  exact qq d _ v G2 H2 (hΨ d o' hΡ sf) (m1.change h1 f2 w2 oa fun b hb => by rw [← sf q]; exact hb) rv (f1.trans (Fr.cell h1 f2))
theorem Mt.newCell {K : PySem.W.Frag} {G H G' H' : Hp} {σ : SS} {a : Addr} {o : Ow} (m : Mt K G H σ δ) (ok : OwAt K G' H' a o) (w : Wd G' H') (f : Fr [] G H (foot a o) G' H') : Mt K G' H' (some (.ref a) :: σ) (.ow a o :: δ) ∧ Fr (feet δ) G H (feet (.ow a o :: δ)) G' H' := by
  have m2 : Mt K G' H' σ δ := m.step f w fun _ _ => List.not_mem_nil
  refine ⟨⟨w, .cons ⟨rfl, ok⟩ m2.at_, List.pairwise_cons.mpr ⟨fun c hc b hb hb' => ?_, m.sep⟩⟩, f.mono (fun b h => absurd h List.not_mem_nil) fun b hb => ?_⟩
  · obtain ⟨u, e⟩ := m.all b (mem_feet.mpr ⟨c, hc, hb'⟩)
    rcases f.ff b hb with z | z
    · exact absurd z List.not_mem_nil
    · rw [e] at z; cases z
  · rw [feet_cons] at hb
    rcases List.mem_append.mp hb with z | z
    · exact .inl z
    · exact .inr (.inl z)
theorem Ev.ownN {R : List Dat → (Addr → Ow → Prop) → Prop} (g : Gx X) (h : Has X.prog X.w X.K X.mg X.base k x (NewSp X.K R)) (hr : Room k X.A) {Ρ : Addr → Ow → Prop} (ha : EvAP X δ (e :: es) ds) (hR : R ds Ρ) (hk : ∀ a o, Ρ a o → Φ (.ow a o) δ)
    (hg : Gl X x := by rfl) (hdb : (x == ("__debug__" : Str)) = false := by decide) (he : starEach (e :: es) X.env = (false, eval e X.env) :: starEach es X.env := by rfl) (hpl : (backTo pos (starEach es X.env)).any (·.1) = false := by rfl) :
    Ev X δ (.Call (.Name x p) (e :: es) [] pos) Φ := fun σ G H m Q q => by
  obtain ⟨f, fd, ps, F, hm, hk2, hb⟩ := h
  refine PE.w (peCallG F hr g.gd hm hk2 hb paW hg hdb he hpl) (ha σ G H m _ fun vs G' H' r w ex => ⟨G', ds, Ρ, hR, w, r, fun a o G2 H2 hΡ ok w2 f2 => ?_⟩)
  obtain ⟨m3, f3⟩ := (m.ext ex w).newCell ok w2 f2
  exact q _ _ _ G2 H2 (hk a o hΡ) m3 ((Ext.up ex _).trans f3)
end
end K94
end

/-! text KO -/
section
set_option Elab.async false
set_option linter.all false
set_option maxRecDepth 100000
set_option maxHeartbeats 4000000
set_option autoImplicit true
/-! dicts walked; dicts by comprehensions -/
namespace K94
open PySem PySem.Spec PyProof.Rows L2

/-! ### a fixed value -/
def EvV (X : Cx) (δ : List Cell) (e : Expr) (d : Dat) : Prop :=
  ∀ (σ : SS) (G H0 : Hp), Mt X.K G H0 σ δ → ∃ v, Rp X.K G v d ∧ ∀ H, Mt X.K G H σ δ → ∀ Q : VK, (∀ (G' H' : Hp), Wd G' H' → Ext G H G' H' → Q v H') → wpE X e σ H Q
section
variable {X : Cx} {δ : List Cell} {a b e tg iter : Expr} {d : Dat} {p pos : Pos} {x : Str} {i : Nat} {ps : List (Dat × Dat)}
theorem EvV.var (h : δ[i]? = some (.im d)) (hn : NameAt X i x := by exact ⟨rfl, by first | exact Or.inl rfl | exact Or.inr (Or.inl rfl) | exact Or.inr (Or.inr rfl), by decide, by decide⟩) : EvV X δ (.Name x pos) d := fun σ G H0 m => by
  obtain ⟨v, ev, y, rfl, r⟩ := m.get h
  exact ⟨y, r, fun H m2 Q q => PE.w (peName hn) ⟨y, ev, q G H m2.wd (Fr.refl _ _ _)⟩⟩
theorem EvV.dgetT (g : Gx X) {k : List L2.Key} (ha : EvV X δ a (.dict ps)) (hb : EvP X δ b (tK k)) (at_ : Tups ps) (hd : dlookT ps k = some d) (hs : NoSl b := by intro _ _; rfl) : EvV X δ (.Subscript a b pos) d := fun σ G H0 m => by
  obtain ⟨v, rv, run⟩ := ha σ G H0 m
  obtain ⟨q, kvs, rfl, gq, rk⟩ := rv.dictT at_
  rcases rk.look k with ⟨u, d', e1, e2, ru⟩ | ⟨_, e2⟩
  · rw [hd] at e2
    cases e2
    refine ⟨u, ru, fun H m2 Q qq => PE.w (pe_dget (by have := g.hu; omega) peW peW hs) (run H m2 _ fun G1 H1 w1 ex1 => ?_)⟩
    have m3 := m2.ext ex1 w1
    refine oneP m3 hb fun y G2 H2 m4 r2 ex2 => ?_
    have ex := ex1.trans ex2
    cases r2 with
    | @tup c ys _ gc rc =>
      have e3 := rc.keyVs
      subst e3
      exact ⟨q, u, rfl, .inr ⟨kvs, k, c, m4.wd.rd (ex.gg _ _ gq), rfl, m4.wd.tupH gc, e1.symm⟩, qq G2 H2 m4.wd ex⟩
  · rw [hd] at e2
    cases e2
/-! ### locked -/
theorem Mt.lockD {K : PySem.W.Frag} {G H : Hp} {σ : SS} (m : Mt K G H σ δ) {a : Addr} {u : HO} {od : Obj} (g : G a = some u) (di : IsDct u) : Mt K G (upd H a (.frz od u)) σ δ := by
  refine ⟨m.wd.lock g di, pairedKeep m.at_ fun v c hc q => q.keep (Le.refl G) (fun b hb w e => ?_) fun b hb => q.none b hb, m.sep⟩
  rw [upd_ne fun z => by have := q.none b hb; rw [z, g] at this; cases this]
  exact e
theorem dctNe {u : HO} (di : IsDct u) : ∀ xs, u ≠ .tup xs := fun xs e => by subst e; exact di
theorem Fr.unlockD {F F' : List Addr} {G H G' H' : Hp} {a : Addr} {u : HO} {od : Obj} (hH : H a = some u) (f : Fr F G (upd H a (.frz od u)) F' G' H') : Fr F G H F' G' (upd H' a u) where
  gg := f.gg
  hh := fun b v e n => by
    by_cases z : b = a
    · rw [z, upd_same]; rw [z, hH] at e; exact e
    · rw [upd_ne z]; exact f.hh b v (by rw [upd_ne z]; exact e) n
  ff := fun b h => by
    rcases f.ff b h with z | z
    · exact .inl z
    · by_cases y : b = a
      · rw [y, upd_same] at z; cases z
      · rw [upd_ne y] at z; exact .inr z
  nn := fun b v e g n => by
    by_cases z : b = a
    · exact f.nn b (.frz od u) (by rw [z, upd_same]) g n
    · exact f.nn b v (by rw [upd_ne z]; exact e) g n
theorem Mt.unlockD {K : PySem.W.Frag} {G H : Hp} {σ : SS} (m : Mt K G H σ δ) {a : Addr} {u : HO} (g : G a = some u) (di : IsDct u) : Mt K G (upd H a u) σ δ := by
  refine ⟨m.wd.unlock g (dctNe di), pairedKeep m.at_ fun v c hc q => q.keep (Le.refl G) (fun b hb w e => ?_) fun b hb => q.none b hb, m.sep⟩
  rw [upd_ne fun z => by have := q.none b hb; rw [z, g] at this; cases this]
  exact e
theorem dctMut {u : HO} (di : IsDct u) : Mut (some u) := by
  cases u with
  | dK _ => trivial
  | dT _ => trivial
  | _ => exact False.elim di
/-- a dict's address and what walks it -/
theorem hitLocked (hv : EvV X δ iter (.dict ps)) (hp : Tups ps ∨ Atoms ps) {σ : SS} {G H0 : Hp} (m0 : Mt X.K G H0 σ δ) : ∃ a u, G a = some u ∧ IsDct u ∧ ∀ H o, Mt X.K G H σ δ → H a = some (.frz o u) → HitAt X δ σ G H tg iter (ps.map (·.1)) := by
  obtain ⟨v, rv, run⟩ := hv σ G H0 m0
  rcases hp with hp | hp
  · obtain ⟨a, kvs, rfl, ga, rk⟩ := rv.dictT hp
    refine ⟨a, _, ga, trivial, fun H o m hH R k => PI.w (pi_keys peW) (run H m _ fun G1 H1 w1 ex => ?_)⟩
    have h1 := ex.hh a _ hH List.not_mem_nil
    exact ⟨a, o, rfl, .inr ⟨kvs, h1, k _ _ G1 H1 (m.ext ex w1) ex (walkD_keysT (rk.mono ex.gg) (ex.gg _ _ ga)) h1⟩⟩
  · obtain ⟨a, kvs, rfl, ga, rk⟩ := rv.dictK hp
    refine ⟨a, _, ga, trivial, fun H o m hH R k => PI.w (pi_keys peW) (run H m _ fun G1 H1 w1 ex => ?_)⟩
    have h1 := ex.hh a _ hH List.not_mem_nil
    exact ⟨a, o, rfl, .inl ⟨kvs, h1, k _ _ G1 H1 (m.ext ex w1) ex (walkD_keys (rk.mono ex.gg) (ex.gg _ _ ga)) h1⟩⟩
theorem EvP.locked {t : TE} (pe : PE X e t) (hv : EvV X δ iter (.dict ps)) (hp : Tups ps ∨ Atoms ps)
    (h : ∀ (σ : SS) (G H : Hp), Mt X.K G H σ δ → HitAt X δ σ G H tg iter (ps.map (·.1)) → ∀ Q : VK, (∀ (v : V) (G' H' : Hp), Rp X.K G' v d → Wd G' H' → Ext G H G' H' → Q v H') → t σ H Q) : EvP X δ e d := fun σ G H m Q q => by
  obtain ⟨a, u, ga, di, hit⟩ := hitLocked (tg := tg) hv hp m
  rcases m.wd.sub a u ga with hH | ⟨_, o, hH⟩
  · refine PE.w (pe_lock pe) ⟨a, u, hH, dctMut di, fun od => ?_⟩
    have m1 : Mt X.K G (upd H a (.frz od u)) σ δ := m.lockD ga di
    refine h σ G _ m1 (hit _ od m1 upd_same) _ fun v G' H' rv w ex => ?_
    exact ⟨ex.hh a _ upd_same List.not_mem_nil, q v G' _ rv (w.unlock (ex.gg _ _ ga) (dctNe di)) (Fr.unlockD hH ex)⟩
  · exact PE.w pe (h σ G H m (hit H o m hH) Q q)
/-- for k in d -/
theorem RunS.forD {body : List Stmt} {Φ : Out → Prop} (hv : EvV X δ iter (.dict ps)) (hp : Tups ps ∨ Atoms ps) (I : Nat → List Cell → Prop) (h0 : I 0 δ) (fi : ForInv X tg body Φ (ps.map (·.1)) I)
    (hc : X.calm = true) (hpo : PassesOwn (model X.prog X.w) X.A X.env X.xe := by first | exact PassesOwn.never | exact po_of rfl) (hs : ∀ x, foldedSetIterable iter X.env x = pure x := by intro _; rfl) : RunS X δ (.For tg iter body [] pos) Φ := fun σ G H m D r => by
  obtain ⟨a, u, ga, di, hit⟩ := hitLocked (tg := tg) hv hp m
  have core : ∀ (H1 : Hp) (D1 : Ends), Mt X.K G H1 σ δ → HitAt X δ σ G H1 tg iter (ps.map (·.1)) → RunPost X.K (feet δ) G H1 Φ D1 → tFor (wpI X tg iter) (wpG X tg) (fun D σ H => wpSs X body σ H D) D1 σ H1 := fun H1 D1 m1 hi r1 =>
    hi _ fun J S G' H' m' ex w s => forW m' w s I h0 fi r1 (Ext.up ex _)
  rcases m.wd.sub a u ga with hH | ⟨_, o, hH⟩
  · refine PS.w (ps_lock (ps_for hpo hc piW pgW pssW hs)) ⟨a, u, hH, dctMut di, fun od => ?_⟩
    have m1 : Mt X.K G (upd H a (.frz od u)) σ δ := m.lockD ga di
    have off : a ∉ feet δ := fun hm => by have := m.none a hm; rw [ga] at this; cases this
    have at_ : ∀ {F' : List Addr} {G' H' : Hp}, Fr (feet δ) G (upd H a (.frz od u)) F' G' H' → H' a = some (.frz od u) := fun f => f.hh a _ upd_same off
    refine core _ _ m1 (hit _ od m1 upd_same) ⟨fun δ' σ' G' H' k m' f => ⟨at_ f, r.nx δ' σ' G' _ k (m'.unlockD (f.gg _ _ ga) di) (Fr.unlockD hH f)⟩, fun δ' σ' G' H' k m' f => ⟨at_ f, r.bk δ' σ' G' _ k (m'.unlockD (f.gg _ _ ga) di) (Fr.unlockD hH f)⟩,
      fun δ' σ' G' H' k m' f => ⟨at_ f, r.ct δ' σ' G' _ k (m'.unlockD (f.gg _ _ ga) di) (Fr.unlockD hH f)⟩, fun rr δ' v σ' G' H' k m' f => ⟨at_ f, r.rt rr δ' v σ' G' _ k (m'.unlockD (f.gg _ _ ga) di) (Fr.unlockD hH f)⟩⟩
  · exact PS.w (ps_for hpo hc piW pgW pssW hs) (core H D m (hit H o m hH) r)
end
end K94
end

/-! text KP -/
section
set_option Elab.async false
set_option linter.all false
set_option maxRecDepth 100000
set_option maxHeartbeats 4000000
set_option autoImplicit true
/-! dicts by comprehensions -/
namespace K94
open PySem PySem.Spec PyProof.Rows L2

/-! ### the machine's side of a dict whose keys are tuples -/
section
variable {X : Cx} {pins : List (Addr × Obj)} {σ : SS} {H : Hp} {s : Shared}
theorem setKeyT {E : Value → Shared → Prop} {D c : Addr} {kvs : List (List L2.Key × V)} {kk : List L2.Key} {v : V} {r : Value} {Q : Unit → Shared → Prop} (hu : X.A.units + 1 < cLine) (I : Inv X pins σ H s) (hD : H D = some (.dT kvs)) (hz : kvs.length < sizeLine)
    (hc : H c = some (.tup (kk.map kV))) (rv : RelV v r) (fin : ∀ s', Inv X pins σ (upd H D (.dT (putK kvs kk v))) s' → Q () s') : wpAny (model X.prog X.w) X.A (dictSet D (.ref c) r) Q E s := by
  obtain ⟨z1, ns, xs, rel, dd⟩ := dt_of I.hok hD
  have z2 : xs.length ≤ sizeLine := by rw [← Paired.length rel]; exact z1
  have z3 : (putK kvs kk v).length ≤ sizeLine := Nat.le_trans (length_putK kvs kk v) hz
  refine wpAny_dictSet_heap (hsz := z2) (show X.A.units < cLine from Nat.lt_of_succ_lt hu) (key_of I.hok hc) dd fun h' ⟨ob, es, ep, g1, g2, g3, g4, _, g5⟩ same => fin _ ?_
  have new : ObjOk X.prog X.w (upd H D (.dT (putK kvs kk v))) h' D (.dT (putK kvs kk v)) := by
    refine ⟨z3, ns, storedH xs kk c r, (rel.put kk hc rv).keeps fun b ys eb => ?_, ob, es, ep, g1, g2, g3, g4, g5⟩
    rw [upd_ne (ne_of eb hD (fun z => nomatch z))]
    exact eb
  exact d_write I (by rw [hD]; trivial) same ⟨ob, g1⟩ new
/-- {k: v for target in iter if ..}, the keys tuples -/
def tDcT (wi : TI) (g : TG) (tt : TT) (tk tv : TE) (vs : List Nat) : TE := fun σ H Q => wi σ H fun J H1 => ∀ D, H1 D = none → ∃ W : Nat → Nat → Hp → Prop, (∃ m, W 0 m (upd H1 D (.dT []))) ∧ ∀ i m H, W i m H →
  (J.stop i H ∧ Q (.ref D) H) ∨ (J.go i H ∧ ∃ Nx : Hp → Prop, (∀ H', Nx H' → ∃ m', m' < m ∧ W (i + 1) m' H') ∧ ∀ x H', J.yld i H x H' → g x (wipe σ vs) H' fun σ2 H2 => wipe σ2 vs = wipe σ vs ∧ tt σ2 H2 fun b H3 =>
    if b = true then tk σ2 H3 fun y H4 => tv σ2 H4 fun z H5 => ∃ kvs kk c, y = .ref c ∧ H5 c = some (.tup (kk.map kV)) ∧ H5 D = some (.dT kvs) ∧ kvs.length < sizeLine ∧ Nx (upd H5 D (.dT (putK kvs kk z))) else Nx H3)
theorem dcT_core {pins : List (Addr × Obj)} {s : Shared} {σ : SS} {H : Hp} {Q : VK} {kx vx tg iter : Expr} {ifs : List Expr} {scope : Scope} {own : List (Str × Nat)} {pos pos' : Pos} {wi : TI} {g : TG} {tt : TT} {tk tv : TE} {use : Option (Value → Sem Unit)} {Qf : Value → Shared → Prop} (hu : X.A.units + 1 < cLine) (hc : X.calm = true) (hN : X.N.Nodup) (I : Inv X pins σ H s) (hi : PI X tg iter wi) (ok : BlkOk X.N X.env.scope scope own)
    (hg : Bk X scope fun X' => PG X' tg g) (ht : Bk X scope fun X' => PTs X' ifs tt) (hk : Bk X scope fun X' => PE X' kx tk) (he : Bk X scope fun X' => PE X' vx tv) (hs : ∀ x, foldedSetIterable iter X.env x = pure x) (h : tDcT wi g tt tk tv (own.map (·.2)) σ H Q)
    (hRR : ∀ D C s' m H', Inv X pins σ H' s' → Q (.ref D) H' → s'.heap.Ns C m → FpOk X pins H' C → compPost (model X.prog X.w) X.A X.xe use Qf (.ref D) C (.ok .next) s') :
    wpAny (model X.prog X.w) X.A (comprehension (.DictComp kx vx [⟨tg, iter, ifs, 0⟩] scope pos) scope X.env pos' newDict false (eval iter X.env) use) Qf X.xe s := by
  have frees : ∀ y ∈ scope.names, y.2 = .free → ∃ c, X.env.cells.lookup y.1 = some c := fun y hy e => (ok.free y hy e).elim (fun z => I.ok.has _ (.inl z)) fun z => I.ok.has _ (.inr z)
  refine wpAny_comprehension_free (use := use) rfl hs (closure_ok frees) ok.kind (fun y hy e => by rw [ok.uniq y hy, e]) (thn (hi.run pins s σ H _ I h) fun xv sa hx => thn hx fun itv sb hb => ?_)
  obtain ⟨it, feetI, tn, J, Hb, rfl, Ib, T, stb, offb, want⟩ := hb
  refine wpAny_newObj_type (newEnv_comp ?_)
  generalize hD : sb.heap.objs.size = D
  have freshD : Hb D = none := Ib.hok.fresh (Nat.le_of_eq hD)
  obtain ⟨W, ⟨fuel, start0⟩, turn⟩ := want D freshD
  generalize hsc : ({ sb with heap := sb.heap.push { cls := .type "dict", data := .dict #[] } } : Shared) = sc
  have Ic : Inv X pins σ (upd Hb D (.dT [])) sc := by
    rw [← hsc]
    refine Ib.laid (t' := sb.toks) (fun b o e => Heap.get?_push_of_some _ e) (Nat.le_of_eq hD) ?_
    rw [← hD]
    exact dt_empty sb.heap Ib.big
  have heapc : sc.heap = sb.heap.push { cls := .type "dict", data := .dict #[] } := by rw [← hsc]
  have offc : ∀ b ∈ feetI, FpOk X pins (upd Hb D (.dT [])) b ∧ b < sc.heap.objs.size := fun b hb => by
    obtain ⟨o, eo, _⟩ := T.obj _ _ stb b hb
    have small := Heap.lt_size eo
    refine ⟨⟨?_, (offb b hb).2⟩, by rw [heapc, Heap.size_push]; exact Nat.lt_succ_of_lt small⟩
    rw [upd_ne (by rw [← hD]; exact Nat.ne_of_lt small)]
    exact (offb b hb).1
  have stc : tn 0 sc.heap := T.keep _ _ _ stb fun b _ o e => by rw [heapc]; exact Heap.get?_push_of_some _ e
  have Id := block_start Ic ok hN offc
  have pg : PG (X.blk sc (upd Hb D (.dT [])) scope (compEnvC scope (cellsFrom (sc.heap.objs.size + 1) scope.names (cloFrom X.env.cells scope.names [])) sc.heap.objs.size X.env) feetI) tg g := hg sc (upd Hb D (.dT [])) sc.heap.objs.size (cellsFrom (sc.heap.objs.size + 1) scope.names (cloFrom X.env.cells scope.names [])) feetI
  have pt : PTs (X.blk sc (upd Hb D (.dT [])) scope (compEnvC scope (cellsFrom (sc.heap.objs.size + 1) scope.names (cloFrom X.env.cells scope.names [])) sc.heap.objs.size X.env) feetI) ifs tt := ht sc (upd Hb D (.dT [])) sc.heap.objs.size (cellsFrom (sc.heap.objs.size + 1) scope.names (cloFrom X.env.cells scope.names [])) feetI
  have pk : PE (X.blk sc (upd Hb D (.dT [])) scope (compEnvC scope (cellsFrom (sc.heap.objs.size + 1) scope.names (cloFrom X.env.cells scope.names [])) sc.heap.objs.size X.env) feetI) kx tk := hk sc (upd Hb D (.dT [])) sc.heap.objs.size (cellsFrom (sc.heap.objs.size + 1) scope.names (cloFrom X.env.cells scope.names [])) feetI
  have pe : PE (X.blk sc (upd Hb D (.dT [])) scope (compEnvC scope (cellsFrom (sc.heap.objs.size + 1) scope.names (cloFrom X.env.cells scope.names [])) sc.heap.objs.size X.env) feetI) vx tv := he sc (upd Hb D (.dT [])) sc.heap.objs.size (cellsFrom (sc.heap.objs.size + 1) scope.names (cloFrom X.env.cells scope.names [])) feetI
  show codeAny _ _ (.compStart (.DictComp kx vx [⟨tg, iter, ifs, 0⟩] scope pos) 0 (.ref it) (.ref D) (compEnvC scope (cellsFrom (sc.heap.objs.size + 1) scope.names (cloFrom X.env.cells scope.names [])) sc.heap.objs.size X.env))
    (compPost (model X.prog X.w) X.A X.xe use Qf (.ref D) sc.heap.objs.size) { sc with heap := pushCells (sc.heap.push { cls := .type "dict", data := .dict #[] }) scope.names }
  have nocell : ∀ b ∈ feetI, (upd Hb D (.dT [])) b = none := fun b hb => (offc b hb).1.1
  generalize hce : compEnvC scope (cellsFrom (sc.heap.objs.size + 1) scope.names (cloFrom X.env.cells scope.names [])) sc.heap.objs.size X.env = ce at Id pg pt pk pe ⊢
  have locC : ce.locals = sc.heap.objs.size := by subst hce; rfl
  generalize hHc : upd Hb D (.dT []) = Hc at Ic Id pg pt pk pe start0 nocell offc
  generalize hsd : ({ sc with heap := pushCells (sc.heap.push { cls := .type "dict", data := .dict #[] }) scope.names } : Shared) = sd at Id ⊢
  have std : tn 0 sd.heap := T.keep _ _ _ stc fun b _ o e => by rw [← hsd]; exact pushCells_keeps _ _ _ _ (Heap.get?_push_of_some _ e)
  have still : ∀ {σ' : SS} {H' : Hp} {s' : Shared}, Inv (X.blk sc Hc scope ce feetI) [] σ' H' s' → (∀ b ∈ feetI, H' b = none) → ∀ b ∈ feetI, FpOk (X.blk sc Hc scope ce feetI) [] H' b := fun {σ' H' s'} I' hn b hb =>
    ⟨hn b hb, (I'.ok.exf b hb).1, I'.ok.exfs b hb, .inl hb, fun x c e => (I'.ok.exf b hb).2 x c e, fun p hp => absurd (show p ∈ ([] : List (Addr × Obj)) ++ [] from hp) (by simp)⟩
  have loop : codeAny (model X.prog X.w) X.A (.compLoop (.DictComp kx vx [⟨tg, iter, ifs, 0⟩] scope pos) 0 (.ref it) (.ref D) ce) (compPost (model X.prog X.w) X.A X.xe use Qf (.ref D) sc.heap.objs.size) sd := by
    refine compLoop_anyD (fun n s' => ∃ i H', Inv (X.blk sc Hc scope ce feetI) [] (wipe σ (own.map (·.2))) H' s' ∧ tn i s'.heap ∧ (∀ b ∈ feetI, H' b = none) ∧ W i n H') ?_ fuel ⟨0, Hc, Id, std, nocell, start0⟩
    rintro n se ⟨i, He, Ie, ste, ne, we⟩
    rcases turn i n He we with ⟨stop, qq⟩ | ⟨go, Nx, hNx, step⟩
    · refine thnF (T.done (X.blk sc Hc scope ce feetI) rfl rfl rfl hc i [] se _ He (fun _ _ => False) Ie (still Ie ne) ste stop) fun r sf ⟨hr, If⟩ => ?_
      subst hr
      have back : Inv X pins σ He sf := Ic.call' (ch := feetI) If.os If.base If.hok If.bare fun b hb => ⟨(offc b hb).1.2.2.2.1, (offc b hb).1.2.1, (offc b hb).1.2.2.2.2.1, (offc b hb).1.2.2.2.2.2⟩
      have nC : He sc.heap.objs.size = none := by
        have z : He ce.locals = none := If.free
        rw [locC] at z
        exact z
      obtain ⟨m, hn, _⟩ := If.loc
      have hn : sf.heap.Ns ce.locals m := hn
      rw [locC] at hn
      exact hRR D sc.heap.objs.size sf m He back qq hn (Ic.fpOk (Nat.le_refl _) nC)
    · refine thnF (T.item (X.blk sc Hc scope ce feetI) rfl rfl rfl hc i [] se _ He (fun _ _ => False) Ie (still Ie ne) ste go) fun r sf ⟨u, hr, hf⟩ => ?_
      subst hr
      refine thnF hf fun _ sg ⟨x, Hg, Ig, rg, yg, stg, ng⟩ => ?_
      refine thnF (pg.run _ sg _ Hg x u _ (Ig.pinned (still Ig ng) (T.obj _ _ stg)) rg (step x Hg yg)) fun _ sh ⟨σh, Hh, Ih, hwh, qh⟩ => ?_
      refine thnF (pt.run _ sh σh Hh _ Ih qh) fun b si ⟨Hi, Ii, qi⟩ => ?_
      have fin : ∀ {s' : Shared} {H' : Hp}, Inv (X.blk sc Hc scope ce feetI) ([] ++ pinsAt feetI sg.heap) σh H' s' → Nx H' → ∃ m, m < n ∧ ∃ i H', Inv (X.blk sc Hc scope ce feetI) [] (wipe σ (own.map (·.2))) H' s' ∧ tn i s'.heap ∧ (∀ b ∈ feetI, H' b = none) ∧ W i m H' := fun {s' H'} I' nx => by
        obtain ⟨m', hm, w'⟩ := hNx H' nx
        have pin' : ∀ b ∈ feetI, ∀ o, sg.heap.get? b = some o → s'.heap.get? b = some o ∧ H' b = none := fun b hb o e =>
          ⟨(I'.pin (b, o) (List.mem_append_right _ (List.mem_append_right _ (mem_pinsAt hb e)))).1, (I'.pin (b, o) (List.mem_append_right _ (List.mem_append_right _ (mem_pinsAt hb e)))).2.1⟩
        refine ⟨m', hm, i + 1, H', (I'.unpinned (pins := [])).weak (by rw [← hwh, wipe_length]) (fun j v e => ?_), T.keep _ _ _ stg fun b hb o e => (pin' b hb o e).1, fun b hb => ?_, w'⟩
        · rw [← hwh] at e
          exact (wipe_some e).1
        · obtain ⟨o, e, _⟩ := T.obj _ _ stg b hb
          exact (pin' b hb o e).2
      cases b with
      | false =>
        simp only [Bool.false_eq_true, if_false] at qi ⊢
        exact fin Ii qi
      | true =>
        simp only [if_true] at qi ⊢
        refine thnF (pk.run _ si σh Hi _ Ii qi) fun kval sj ⟨yk, Hj, Ij, rj, qj⟩ => ?_
        refine thnF (pe.run _ sj σh Hj _ Ij qj) fun vval sk ⟨yv, Hk, Ik, rk, kvs, kk, c, ek, hck, hDk, hzk, nx⟩ => ?_
        subst ek
        cases (show kval = Value.ref c from rj)
        exact setKeyT (X := X.blk sc Hc scope ce feetI) hu Ik hDk hzk hck rk fun sl Il => fin Il nx
  exact codeAny_compStart_dict loop (T.self X.A 0 _ _ _ std loop)
theorem peDcT {kx vx tg iter : Expr} {ifs : List Expr} {scope : Scope} {own : List (Str × Nat)} {pos : Pos} {wi : TI} {g : TG} {tt : TT} {tk tv : TE} (hu : X.A.units + 1 < cLine) (hc : X.calm = true) (hN : X.N.Nodup) (hi : PI X tg iter wi) (ok : BlkOk X.N X.env.scope scope own)
    (hg : Bk X scope fun X' => PG X' tg g) (ht : Bk X scope fun X' => PTs X' ifs tt) (hk : Bk X scope fun X' => PE X' kx tk) (he : Bk X scope fun X' => PE X' vx tv) (hs : ∀ x, foldedSetIterable iter X.env x = pure x := by intro _; rfl) :
    PE X (.DictComp kx vx [⟨tg, iter, ifs, 0⟩] scope pos) (tDcT wi g tt tk tv (own.map (·.2))) := by
  refine ⟨fun pins s σ H Q I h => ?_⟩
  rw [arm_eval_DictComp]
  refine dcT_core hu hc hN I hi ok hg ht hk he hs h fun D C s' m H' I' q hn f => ⟨m, hn, fun h'' sb => ?_⟩
  obtain ⟨f0, f1, f2, f3, f4, f5⟩ := f
  exact ⟨.ref D, H', I'.turned (t' := s'.toks) (fun b o hb e => (sb.2 b hb).trans e) f0 f1 f3 f4 f5, rfl, q⟩
end
/-! ### by data -/
def keptK (b : Dat → Bool) (kf : Dat → L2.Key) (r : Dat → Dat) (ds : List Dat) : List (Dat × Dat) := (ds.filter b).foldl (fun acc d => dputK acc (kf d) (r d)) []
def keptT (b : Dat → Bool) (kf : Dat → List L2.Key) (r : Dat → Dat) (ds : List Dat) : List (Dat × Dat) := (ds.filter b).foldl (fun acc d => dputT acc (kf d) (r d)) []
theorem length_dputK (ds : List (Dat × Dat)) (k : L2.Key) (d : Dat) : (dputK ds k d).length ≤ ds.length + 1 := by
  unfold dputK
  split
  · rw [List.length_map]; omega
  · rw [List.length_append, List.length_singleton]; omega
theorem length_dputT (ds : List (Dat × Dat)) (k : List L2.Key) (d : Dat) : (dputT ds k d).length ≤ ds.length + 1 := by
  unfold dputT
  split
  · rw [List.length_map]; omega
  · rw [List.length_append, List.length_singleton]; omega
theorem foldLen {α β : Type} (f : List α → β → List α) (hf : ∀ a x, (f a x).length ≤ a.length + 1) : ∀ (l : List β) (a : List α), (l.foldl f a).length ≤ a.length + l.length
  | [], a => Nat.le_refl _
  | x :: l, a => by
    have h1 := foldLen f hf l (f a x)
    have h2 := hf a x
    rw [List.foldl_cons, List.length_cons]
    omega
theorem keptStep {α : Type} (F : List Dat → List α) (f : List α → Dat → List α) (b : Dat → Bool) (hF : ∀ l, F l = (l.filter b).foldl f []) {ds : List Dat} {i : Nat} {d : Dat} (hd : ds[i]? = some d) : F (ds.take (i + 1)) = if b d = true then f (F (ds.take i)) d else F (ds.take i) := by
  have e : ds.take (i + 1) = ds.take i ++ [d] := by rw [List.take_add_one, hd]; rfl
  rw [hF, hF, e, List.filter_append]
  cases hb : b d with
  | true => simp [hb]
  | false => simp [hb]
section
variable {X : Cx} {δ : List Cell} {tg iter kx vx e : Expr} {ifs : List Expr} {scope : Scope} {own : List (Str × Nat)} {pos : Pos} {ds : List Dat} {f : Dat → List Cell} {b : Dat → Bool} {r kd : Dat → Dat} {ps : List (Dat × Dat)}
theorem dcKO {kf : Dat → L2.Key} (ha : ∀ d ∈ ds, Bk X scope fun X' => AsDV X' (wipeC δ (own.map (·.2))) tg d (f d) (own.map (·.2)))
    (ht : ∀ d ∈ ds, Bk X scope fun X' => EvTs X' (f d) ifs (b d)) (hk : ∀ d ∈ ds, b d = true → KeyIs (kd d) (kf d) ∧ Bk X scope fun X' => EvP X' (f d) kx (kd d)) (he : ∀ d ∈ ds, b d = true → Bk X scope fun X' => EvP X' (f d) vx (r d)) (hl : ds.length ≤ 1000)
    {σ : SS} {G H : Hp} (m : Mt X.K G H σ δ) (hit : HitAt X δ σ G H tg iter ds) {Q : VK} (q : ∀ (D : Addr) (xs : List (L2.Key × V)) (G' H' : Hp), H' D = some (.dK xs) → RpK X.K G' xs (keptK b kf r ds) → G' D = none → Wd G' H' → Fr [] G H [D] G' H' → H D = none → Q (.ref D) H') :
    tDc (wpI X tg iter) (wgB X scope tg) (wtB X scope ifs) (weB X scope kx) (weB X scope vx) (own.map (·.2)) σ H Q := by
  refine hit _ fun J S G1 H1 m1 ex1 w s1 D nD => ?_
  have offD : ∀ x ∈ feet (wipeC δ (own.map (·.2))), x ≠ D := fun x hx z => by
    obtain ⟨u, e⟩ := (m1.wipe _).all x hx
    rw [z, nD] at e; cases e
  have gD : G1 D = none := m1.wd.none nD
  have f0 : Fr [] G1 H1 [D] G1 (upd H1 D (.dK [])) := Fr.fresh m1.wd nD
  have resS : ∀ i d, ds[i]? = some d → keptK b kf r (ds.take (i + 1)) = if b d = true then dputK (keptK b kf r (ds.take i)) (kf d) (r d) else keptK b kf r (ds.take i) := fun i d hd => keptStep (keptK b kf r) _ b (fun l => rfl) hd
  refine ⟨fun i k H => k = ds.length - i ∧ i ≤ ds.length ∧ ∃ G xs, Mt X.K G H (wipe σ (own.map (·.2))) (wipeC δ (own.map (·.2))) ∧ Fr [] G1 H1 [D] G H ∧ H D = some (.dK xs) ∧ RpK X.K G xs (keptK b kf r (ds.take i)) ∧ G D = none ∧ S H,
    ⟨_, rfl, Nat.zero_le _, G1, [], (m1.wipe _).wrD gD (dkNe _) offD, f0, upd_same, .nil, gD, w.keeps _ G1 H1 _ G1 _ (Le.refl _) s1 f0 fun _ h => absurd h List.not_mem_nil⟩, ?_⟩
  rintro i k H2 ⟨rfl, hi, G2, xs, m2, f2, hD, rx, gD2, s2⟩
  by_cases hlt : i < ds.length
  · refine .inr ⟨w.goes i G2 H2 hlt f2.gg m2.wd s2, fun H' => i + 1 ≤ ds.length ∧ ∃ G xs, Mt X.K G H' (wipe σ (own.map (·.2))) (wipeC δ (own.map (·.2))) ∧ Fr [] G1 H1 [D] G H' ∧ H' D = some (.dK xs) ∧ RpK X.K G xs (keptK b kf r (ds.take (i + 1))) ∧ G D = none ∧ S H', fun H' h => ⟨ds.length - (i + 1), by omega, rfl, h.1, h.2⟩, fun x H' y => ?_⟩
    obtain ⟨d, G3, hd, rd, w3, ex3⟩ := w.yields i G2 H2 x H' hlt f2.gg m2.wd s2 y
    have hm := List.mem_of_getElem? hd
    intro sb Hb Cb clb fpb
    refine (ha d hm sb Hb Cb clb fpb).2 _ G3 H' x (m2.ext ex3 w3) rd _ fun σ4 m4 hw4 => ⟨hw4.trans (wipeTwice _ _), ?_⟩
    intro sb Hb Cb clb fpb
    refine (ht d hm sb Hb Cb clb fpb).run m4 fun G5 H5 w5 ex5 => ?_
    have ex35 := ex3.trans ex5
    have step : ∀ (G6 H6 : Hp) (ys : List (L2.Key × V)), Wd G6 H6 → Ext G2 H2 G6 H6 → RpK X.K G6 ys (keptK b kf r (ds.take (i + 1))) → ∀ H7 : Hp, (H7 = H6 ∧ ys = xs ∨ H7 = upd H6 D (.dK ys)) → i + 1 ≤ ds.length ∧ ∃ G xs, Mt X.K G H7 (wipe σ (own.map (·.2))) (wipeC δ (own.map (·.2))) ∧ Fr [] G1 H1 [D] G H7 ∧ H7 D = some (.dK xs) ∧ RpK X.K G xs (keptK b kf r (ds.take (i + 1))) ∧ G D = none ∧ S H7 := fun G6 H6 ys w6 ex6 ry H7 h7 => by
      have gD6 : G6 D = none := ex6.nn D _ hD gD2 List.not_mem_nil
      have m6 := m2.ext ex6 w6
      have f6 : Fr [] G1 H1 [D] G6 H6 := f2.trans (Ext.up ex6 [D])
      have s6 : S H6 := w.keeps _ G2 H2 _ G6 H6 f2.gg s2 ex6 fun _ h => absurd h List.not_mem_nil
      rcases h7 with ⟨rfl, rfl⟩ | rfl
      · exact ⟨hlt, G6, _, m6, f6, ex6.hh D _ hD List.not_mem_nil, ry, gD6, s6⟩
      · have fw : Fr [D] G6 H6 [D] G6 (upd H6 D (.dK ys)) := Fr.wr gD6
        exact ⟨hlt, G6, ys, m6.wrD gD6 (dkNe _) offD, f6.trans fw, upd_same, ry, gD6, w.keeps _ G6 H6 _ G6 _ f6.gg s6 fw fun x h => by rw [List.mem_singleton.mp h]; exact gD6⟩
    cases hb : b d with
    | false =>
      rw [if_neg Bool.false_ne_true]
      refine step G5 H5 xs w5 ex35 ?_ H5 (.inl ⟨rfl, rfl⟩)
      rw [resS i d hd, hb, if_neg Bool.false_ne_true]
      exact rx.mono ex35.gg
    | true =>
      rw [if_pos rfl]
      obtain ⟨hki, hke⟩ := hk d hm hb
      intro sb Hb Cb clb fpb
      refine hke sb Hb Cb clb fpb σ4 G5 H5 (m4.ext ex5 w5) _ fun kv G6 H6 rkv w6 ex6 => ?_
      have m6 := (m4.ext ex5 w5).ext ex6 w6
      intro sb Hb Cb clb fpb
      refine he d hm hb sb Hb Cb clb fpb σ4 G6 H6 m6 _ fun v G7 H7 rv w7 ex7 => ?_
      have ex := ex35.trans (ex6.trans ex7)
      refine ⟨xs, kf d, hki.v rkv, ex.hh D _ hD List.not_mem_nil, ?_, step G7 H7 (putK xs (kf d) v) w7 ex ?_ _ (.inr rfl)⟩
      · rw [rx.length]
        refine small1000 (Nat.le_trans (foldLen _ (fun a x => length_dputK a _ _) _ _) (Nat.le_trans ?_ hl))
        exact Nat.le_trans (by rw [List.length_nil, Nat.zero_add]; exact List.length_filter_le _ _) (by rw [List.length_take]; omega)
      · rw [resS i d hd, hb, if_pos rfl]
        exact (rx.mono ex.gg).put (kf d) rv
  · have e : i = ds.length := by omega
    subst e
    rw [List.take_length] at rx
    refine .inl ⟨w.stops G2 H2 f2.gg m2.wd s2, ?_⟩
    refine q D xs G2 H2 hD rx gD2 m2.wd ((ex1.less fun _ h => h).trans f2) ?_
    cases hH : H D with
    | none => rfl
    | some u => have := ex1.hh D u hH List.not_mem_nil; rw [nD] at this; cases this
theorem dcK {kf : Dat → L2.Key} (ha : ∀ d ∈ ds, Bk X scope fun X' => AsDV X' (wipeC δ (own.map (·.2))) tg d (f d) (own.map (·.2)))
    (ht : ∀ d ∈ ds, Bk X scope fun X' => EvTs X' (f d) ifs (b d)) (hk : ∀ d ∈ ds, b d = true → KeyIs (kd d) (kf d) ∧ Bk X scope fun X' => EvP X' (f d) kx (kd d)) (he : ∀ d ∈ ds, b d = true → Bk X scope fun X' => EvP X' (f d) vx (r d)) (hl : ds.length ≤ 1000)
    {σ : SS} {G H : Hp} (m : Mt X.K G H σ δ) (hit : HitAt X δ σ G H tg iter ds) {Q : VK} (q : ∀ (v : V) (G' H' : Hp), Rp X.K G' v (.dict (keptK b kf r ds)) → Wd G' H' → Ext G H G' H' → Q v H') :
    tDc (wpI X tg iter) (wgB X scope tg) (wtB X scope ifs) (weB X scope kx) (weB X scope vx) (own.map (·.2)) σ H Q :=
  dcKO ha ht hk he hl m hit fun D xs G' H' hD rx gD w f nD => q (.ref D) (upd G' D (.dK xs)) H' (.dk upd_same (rx.mono (Le.upd gD))) (w.give hD) (f.giveD nD gD)
theorem dcT {kf : Dat → List L2.Key} (ha : ∀ d ∈ ds, Bk X scope fun X' => AsDV X' (wipeC δ (own.map (·.2))) tg d (f d) (own.map (·.2)))
    (ht : ∀ d ∈ ds, Bk X scope fun X' => EvTs X' (f d) ifs (b d)) (hk : ∀ d ∈ ds, b d = true → Bk X scope fun X' => EvP X' (f d) kx (tK (kf d))) (he : ∀ d ∈ ds, b d = true → Bk X scope fun X' => EvP X' (f d) vx (r d)) (hl : ds.length ≤ 1000) (ne : keptT b kf r ds ≠ [])
    {σ : SS} {G H : Hp} (m : Mt X.K G H σ δ) (hit : HitAt X δ σ G H tg iter ds) {Q : VK} (q : ∀ (v : V) (G' H' : Hp), Rp X.K G' v (.dict (keptT b kf r ds)) → Wd G' H' → Ext G H G' H' → Q v H') :
    tDcT (wpI X tg iter) (wgB X scope tg) (wtB X scope ifs) (weB X scope kx) (weB X scope vx) (own.map (·.2)) σ H Q := by
  refine hit _ fun J S G1 H1 m1 ex1 w s1 D nD => ?_
  have offD : ∀ x ∈ feet (wipeC δ (own.map (·.2))), x ≠ D := fun x hx z => by
    obtain ⟨u, e⟩ := (m1.wipe _).all x hx
    rw [z, nD] at e; cases e
  have gD : G1 D = none := m1.wd.none nD
  have f0 : Fr [] G1 H1 [D] G1 (upd H1 D (.dT [])) := Fr.fresh m1.wd nD
  have resS : ∀ i d, ds[i]? = some d → keptT b kf r (ds.take (i + 1)) = if b d = true then dputT (keptT b kf r (ds.take i)) (kf d) (r d) else keptT b kf r (ds.take i) := fun i d hd => keptStep (keptT b kf r) _ b (fun l => rfl) hd
  refine ⟨fun i k H => k = ds.length - i ∧ i ≤ ds.length ∧ ∃ G xs, Mt X.K G H (wipe σ (own.map (·.2))) (wipeC δ (own.map (·.2))) ∧ Fr [] G1 H1 [D] G H ∧ H D = some (.dT xs) ∧ RpT X.K G xs (keptT b kf r (ds.take i)) ∧ G D = none ∧ S H,
    ⟨_, rfl, Nat.zero_le _, G1, [], (m1.wipe _).wrD gD (dtNe _) offD, f0, upd_same, .nil, gD, w.keeps _ G1 H1 _ G1 _ (Le.refl _) s1 f0 fun _ h => absurd h List.not_mem_nil⟩, ?_⟩
  rintro i k H2 ⟨rfl, hi, G2, xs, m2, f2, hD, rx, gD2, s2⟩
  by_cases hlt : i < ds.length
  · refine .inr ⟨w.goes i G2 H2 hlt f2.gg m2.wd s2, fun H' => i + 1 ≤ ds.length ∧ ∃ G xs, Mt X.K G H' (wipe σ (own.map (·.2))) (wipeC δ (own.map (·.2))) ∧ Fr [] G1 H1 [D] G H' ∧ H' D = some (.dT xs) ∧ RpT X.K G xs (keptT b kf r (ds.take (i + 1))) ∧ G D = none ∧ S H', fun H' h => ⟨ds.length - (i + 1), by omega, rfl, h.1, h.2⟩, fun x H' y => ?_⟩
    obtain ⟨d, G3, hd, rd, w3, ex3⟩ := w.yields i G2 H2 x H' hlt f2.gg m2.wd s2 y
    have hm := List.mem_of_getElem? hd
    intro sb Hb Cb clb fpb
    refine (ha d hm sb Hb Cb clb fpb).2 _ G3 H' x (m2.ext ex3 w3) rd _ fun σ4 m4 hw4 => ⟨hw4.trans (wipeTwice _ _), ?_⟩
    intro sb Hb Cb clb fpb
    refine (ht d hm sb Hb Cb clb fpb).run m4 fun G5 H5 w5 ex5 => ?_
    have ex35 := ex3.trans ex5
    have step : ∀ (G6 H6 : Hp) (ys : List (List L2.Key × V)), Wd G6 H6 → Ext G2 H2 G6 H6 → RpT X.K G6 ys (keptT b kf r (ds.take (i + 1))) → ∀ H7 : Hp, (H7 = H6 ∧ ys = xs ∨ H7 = upd H6 D (.dT ys)) → i + 1 ≤ ds.length ∧ ∃ G xs, Mt X.K G H7 (wipe σ (own.map (·.2))) (wipeC δ (own.map (·.2))) ∧ Fr [] G1 H1 [D] G H7 ∧ H7 D = some (.dT xs) ∧ RpT X.K G xs (keptT b kf r (ds.take (i + 1))) ∧ G D = none ∧ S H7 := fun G6 H6 ys w6 ex6 ry H7 h7 => by
      have gD6 : G6 D = none := ex6.nn D _ hD gD2 List.not_mem_nil
      have m6 := m2.ext ex6 w6
      have f6 : Fr [] G1 H1 [D] G6 H6 := f2.trans (Ext.up ex6 [D])
      have s6 : S H6 := w.keeps _ G2 H2 _ G6 H6 f2.gg s2 ex6 fun _ h => absurd h List.not_mem_nil
      rcases h7 with ⟨rfl, rfl⟩ | rfl
      · exact ⟨hlt, G6, _, m6, f6, ex6.hh D _ hD List.not_mem_nil, ry, gD6, s6⟩
      · have fw : Fr [D] G6 H6 [D] G6 (upd H6 D (.dT ys)) := Fr.wr gD6
        exact ⟨hlt, G6, ys, m6.wrD gD6 (dtNe _) offD, f6.trans fw, upd_same, ry, gD6, w.keeps _ G6 H6 _ G6 _ f6.gg s6 fw fun x h => by rw [List.mem_singleton.mp h]; exact gD6⟩
    cases hb : b d with
    | false =>
      rw [if_neg Bool.false_ne_true]
      refine step G5 H5 xs w5 ex35 ?_ H5 (.inl ⟨rfl, rfl⟩)
      rw [resS i d hd, hb, if_neg Bool.false_ne_true]
      exact rx.mono ex35.gg
    | true =>
      rw [if_pos rfl]
      intro sb Hb Cb clb fpb
      refine hk d hm hb sb Hb Cb clb fpb σ4 G5 H5 (m4.ext ex5 w5) _ fun kv G6 H6 rkv w6 ex6 => ?_
      have m6 := (m4.ext ex5 w5).ext ex6 w6
      intro sb Hb Cb clb fpb
      refine he d hm hb sb Hb Cb clb fpb σ4 G6 H6 m6 _ fun v G7 H7 rv w7 ex7 => ?_
      have ex := ex35.trans (ex6.trans ex7)
      cases rkv with
      | @tup c ys _ gc rc =>
        have e3 := rc.keyVs
        subst e3
        refine ⟨xs, kf d, c, rfl, w7.tupH (ex7.gg _ _ gc), ex.hh D _ hD List.not_mem_nil, ?_, step G7 H7 (putK xs (kf d) v) w7 ex ?_ _ (.inr rfl)⟩
        · rw [rx.length]
          refine small1000 (Nat.le_trans (foldLen _ (fun a x => length_dputT a _ _) _ _) (Nat.le_trans ?_ hl))
          exact Nat.le_trans (by rw [List.length_nil, Nat.zero_add]; exact List.length_filter_le _ _) (by rw [List.length_take]; omega)
        · rw [resS i d hd, hb, if_pos rfl]
          exact (rx.mono ex.gg).put (kf d) rv
  · have e : i = ds.length := by omega
    subst e
    rw [List.take_length] at rx
    refine .inl ⟨w.stops G2 H2 f2.gg m2.wd s2, ?_⟩
    refine q (.ref D) (upd G2 D (.dT xs)) H2 (.dt upd_same (fun z => ?_) (rx.mono (Le.upd gD2))) (m2.wd.give hD) (ex1.trans (f2.giveD nD gD2))
    subst z
    generalize hk0 : keptT b kf r ds = kk at rx ne
    cases rx
    exact ne rfl
/-! the rules -/
theorem EvP.compL (hc : X.calm = true) (hN : X.N.Nodup) {elt : Expr} (ok : BlkOk X.N X.env.scope scope own) (hv : EvV X δ iter (.dict ps)) (hp : Tups ps ∨ Atoms ps) (ha : ∀ d ∈ ps.map (·.1), Bk X scope fun X' => AsDV X' (wipeC δ (own.map (·.2))) tg d (f d) (own.map (·.2)))
    (ht : ∀ d ∈ ps.map (·.1), Bk X scope fun X' => EvTs X' (f d) ifs (b d)) (he : ∀ d ∈ ps.map (·.1), b d = true → Bk X scope fun X' => EvP X' (f d) elt (r d)) (hl : ps.length ≤ 1000) (hs : ∀ x, foldedSetIterable iter X.env x = pure x := by intro _; rfl) :
    EvP X δ (.ListComp elt [⟨tg, iter, ifs, 0⟩] scope pos) (.list (keptD b r (ps.map (·.1)))) :=
  EvP.locked (tg := tg) (pe_lc hc hN piW ok (fun _ _ _ _ _ => pgB) (fun _ _ _ _ _ => ptB) (fun _ _ _ _ _ => peB) hs) hv hp fun σ G H m hit Q q => lcP ha ht he (by rw [List.length_map]; exact hl) m hit q
theorem EvP.dictK {kf : Dat → L2.Key} (hc : X.calm = true) (hN : X.N.Nodup) (ok : BlkOk X.N X.env.scope scope own) (hit : EvItP X δ tg iter ds) (ha : ∀ d ∈ ds, Bk X scope fun X' => AsDV X' (wipeC δ (own.map (·.2))) tg d (f d) (own.map (·.2)))
    (ht : ∀ d ∈ ds, Bk X scope fun X' => EvTs X' (f d) ifs (b d)) (hk : ∀ d ∈ ds, b d = true → KeyIs (kd d) (kf d) ∧ Bk X scope fun X' => EvP X' (f d) kx (kd d)) (he : ∀ d ∈ ds, b d = true → Bk X scope fun X' => EvP X' (f d) vx (r d)) (hl : ds.length ≤ 1000) (hs : ∀ x, foldedSetIterable iter X.env x = pure x := by intro _; rfl) :
    EvP X δ (.DictComp kx vx [⟨tg, iter, ifs, 0⟩] scope pos) (.dict (keptK b kf r ds)) := fun σ G H m Q q =>
  PE.w (pe_dc hc hN piW ok (fun _ _ _ _ _ => pgB) (fun _ _ _ _ _ => ptB) (fun _ _ _ _ _ => peB) (fun _ _ _ _ _ => peB) hs) (dcK ha ht hk he hl m (hit σ G H m) q)
theorem EvP.dictKL {kf : Dat → L2.Key} (hc : X.calm = true) (hN : X.N.Nodup) (ok : BlkOk X.N X.env.scope scope own) (hv : EvV X δ iter (.dict ps)) (hp : Tups ps ∨ Atoms ps) (ha : ∀ d ∈ ps.map (·.1), Bk X scope fun X' => AsDV X' (wipeC δ (own.map (·.2))) tg d (f d) (own.map (·.2)))
    (ht : ∀ d ∈ ps.map (·.1), Bk X scope fun X' => EvTs X' (f d) ifs (b d)) (hk : ∀ d ∈ ps.map (·.1), b d = true → KeyIs (kd d) (kf d) ∧ Bk X scope fun X' => EvP X' (f d) kx (kd d)) (he : ∀ d ∈ ps.map (·.1), b d = true → Bk X scope fun X' => EvP X' (f d) vx (r d)) (hl : ps.length ≤ 1000) (hs : ∀ x, foldedSetIterable iter X.env x = pure x := by intro _; rfl) :
    EvP X δ (.DictComp kx vx [⟨tg, iter, ifs, 0⟩] scope pos) (.dict (keptK b kf r (ps.map (·.1)))) :=
  EvP.locked (tg := tg) (pe_dc hc hN piW ok (fun _ _ _ _ _ => pgB) (fun _ _ _ _ _ => ptB) (fun _ _ _ _ _ => peB) (fun _ _ _ _ _ => peB) hs) hv hp fun σ G H m hit Q q => dcK ha ht hk he (by rw [List.length_map]; exact hl) m hit q
theorem EvP.dictT {kf : Dat → List L2.Key} (g : Gx X) (hN : X.N.Nodup) (ok : BlkOk X.N X.env.scope scope own) (hit : EvItP X δ tg iter ds) (ha : ∀ d ∈ ds, Bk X scope fun X' => AsDV X' (wipeC δ (own.map (·.2))) tg d (f d) (own.map (·.2)))
    (ht : ∀ d ∈ ds, Bk X scope fun X' => EvTs X' (f d) ifs (b d)) (hk : ∀ d ∈ ds, b d = true → Bk X scope fun X' => EvP X' (f d) kx (tK (kf d))) (he : ∀ d ∈ ds, b d = true → Bk X scope fun X' => EvP X' (f d) vx (r d)) (hl : ds.length ≤ 1000) (ne : keptT b kf r ds ≠ []) (hs : ∀ x, foldedSetIterable iter X.env x = pure x := by intro _; rfl) :
    EvP X δ (.DictComp kx vx [⟨tg, iter, ifs, 0⟩] scope pos) (.dict (keptT b kf r ds)) := fun σ G H m Q q =>
  PE.w (peDcT (by have := g.hu; omega) g.calm hN piW ok (fun _ _ _ _ _ => pgB) (fun _ _ _ _ _ => ptB) (fun _ _ _ _ _ => peB) (fun _ _ _ _ _ => peB) hs) (dcT ha ht hk he hl ne m (hit σ G H m) q)
theorem EvP.dictTL {kf : Dat → List L2.Key} (g : Gx X) (hN : X.N.Nodup) (ok : BlkOk X.N X.env.scope scope own) (hv : EvV X δ iter (.dict ps)) (hp : Tups ps ∨ Atoms ps) (ha : ∀ d ∈ ps.map (·.1), Bk X scope fun X' => AsDV X' (wipeC δ (own.map (·.2))) tg d (f d) (own.map (·.2)))
    (ht : ∀ d ∈ ps.map (·.1), Bk X scope fun X' => EvTs X' (f d) ifs (b d)) (hk : ∀ d ∈ ps.map (·.1), b d = true → Bk X scope fun X' => EvP X' (f d) kx (tK (kf d))) (he : ∀ d ∈ ps.map (·.1), b d = true → Bk X scope fun X' => EvP X' (f d) vx (r d)) (hl : ps.length ≤ 1000) (ne : keptT b kf r (ps.map (·.1)) ≠ []) (hs : ∀ x, foldedSetIterable iter X.env x = pure x := by intro _; rfl) :
    EvP X δ (.DictComp kx vx [⟨tg, iter, ifs, 0⟩] scope pos) (.dict (keptT b kf r (ps.map (·.1)))) :=
  EvP.locked (tg := tg) (peDcT (by have := g.hu; omega) g.calm hN piW ok (fun _ _ _ _ _ => pgB) (fun _ _ _ _ _ => ptB) (fun _ _ _ _ _ => peB) (fun _ _ _ _ _ => peB) hs) hv hp fun σ G H m hit Q q => dcT ha ht hk he (by rw [List.length_map]; exact hl) ne m hit q
end
end K94
end

/-! text KQ -/
section
set_option Elab.async false
set_option linter.all false
set_option maxRecDepth 100000
set_option maxHeartbeats 4000000
set_option autoImplicit true
/-! comprehensions that draw; of two clauses with nothing kept; stores of several -/
namespace K94
open PySem PySem.Spec PyProof.Rows L2

theorem Mt.unwipe {K : PySem.W.Frag} {G H : Hp} {σ : SS} {δ : List Cell} {vs : List Nat} (m : Mt K G H (L2.wipe σ vs) (wipeC δ vs)) : Mt K G H σ (wipeC δ vs) := by
  refine ⟨m.wd, ?_, m.sep⟩
  have hl : σ.length = (wipeC δ vs).length := by rw [← m.len, wipe_length]
  have get : ∀ (i : Nat) (v : Option V) (c : Cell), σ[i]? = some v → (wipeC δ vs)[i]? = some c → CellOk K G H v c := fun i v c hv hc => by
    obtain ⟨u, hu, ok⟩ := m.get hc
    rw [wipeGet] at hu
    by_cases hi : i ∈ vs
    · have : ∀ (vs : List Nat), i ∈ vs → (wipeC δ vs)[i]? = some c → c = .no := by
        intro vs
        induction vs with
        | nil => intro h; exact absurd h List.not_mem_nil
        | cons w ws ih =>
          intro h hc
          unfold wipeC at hc
          by_cases e : w = i
          · subst e
            have hl : w < ((wipeC δ ws).set w .no).length := (List.getElem?_eq_some_iff.mp hc).1
            rw [List.length_set] at hl
            rw [List.getElem?_set_self hl] at hc
            cases hc
            rfl
          · rw [List.getElem?_set_ne e] at hc
            exact ih ((List.mem_cons.mp h).resolve_left fun z => e z.symm) hc
      rw [this vs hi hc]
      trivial
    · rw [if_neg hi, hv] at hu
      cases hu
      exact ok
  have : ∀ {σ : SS} {δ : List Cell}, σ.length = δ.length → (∀ (i : Nat) v c, σ[i]? = some v → δ[i]? = some c → CellOk K G H v c) → Paired (fun v c => CellOk K G H v c) σ δ := by
    intro σ
    induction σ with
    | nil => intro δ hl _; cases δ with | nil => exact .nil | cons => cases hl
    | cons v σ ih =>
      intro δ hl h
      cases δ with
      | nil => cases hl
      | cons c δ => exact .cons (h 0 v c rfl rfl) (ih (by simpa using hl) fun i v c a b => h (i + 1) v c (by simpa using a) (by simpa using b))
  exact this hl get
section
variable {X : Cx} {δ : List Cell} {tg iter elt e : Expr} {scope : Scope} {own : List (Str × Nat)} {pos : Pos} {Ψ : Dat → List Cell → Prop}
theorem lcI {σ : SS} {G H : Hp} {Q : VK} (hit : EvIt X δ tg iter fun ds δ1 => ds.length ≤ 1000 ∧ ∃ I : Nat → List Dat → List Cell → Prop, I 0 [] δ1 ∧
      (∀ i d acc δ', ds[i]? = some d → I i acc δ' → ∃ δ2, Bk X scope fun X' => AsDV X' (wipeC δ' (own.map (·.2))) tg d δ2 (own.map (·.2)) ∧ EvI X' δ2 elt fun r δ3 => I (i + 1) (acc ++ [r]) δ3) ∧ ∀ acc δ', I ds.length acc δ' → Ψ (.list acc) (wipeC δ' (own.map (·.2))))
    (m : Mt X.K G H σ δ) (q : PostI X.K (feet δ) G H σ Ψ Q) : tLc (wpI X tg iter) (wgB X scope tg) (wtB X scope []) (weB X scope elt) (own.map (·.2)) σ H Q := by
  refine hit σ G H m _ fun ds δ1 J S G1 H1 ⟨hl, I, hI0, hIs, hIf⟩ m1 fr1 w s1 D nD => ?_
  have gD : G1 D = none := m1.wd.none nD
  have m1w := m1.wipe (own.map (·.2))
  have offD : ∀ x ∈ feet (wipeC δ1 (own.map (·.2))), x ≠ D := fun x hx z => by
    obtain ⟨u, e⟩ := m1w.all x hx
    rw [z, nD] at e; cases e
  have f0 : Fr (feet δ1) G1 H1 (D :: feet (wipeC δ1 (own.map (·.2)))) G1 (upd H1 D (.lst [])) := (Fr.fresh (u := .lst []) m1.wd nD).mono (fun b h => absurd h List.not_mem_nil) fun b hb => by
    rcases List.mem_cons.mp hb with z | z
    · exact .inl (by rw [z]; exact List.mem_singleton.mpr rfl)
    · exact .inr (.inl (feetWipe z))
  have none1 : ∀ b ∈ feet δ1, G1 b = none := m1.none
  refine ⟨fun i k H => k = ds.length - i ∧ i ≤ ds.length ∧ ∃ G acc δ' xs, I i acc δ' ∧ acc.length = i ∧ Mt X.K G H (wipe σ (own.map (·.2))) (wipeC δ' (own.map (·.2))) ∧ Fr (feet δ1) G1 H1 (D :: feet (wipeC δ' (own.map (·.2)))) G H ∧ H D = some (.lst xs) ∧ RpA X.K G xs acc ∧ G D = none ∧ D ∉ feet (wipeC δ' (own.map (·.2))) ∧ S H,
    ⟨_, rfl, Nat.zero_le _, G1, [], δ1, [], hI0, rfl, m1w.wrD gD (lstNe _) offD, f0, upd_same, .nil, gD, fun h => offD D h rfl, w.keeps _ G1 H1 _ G1 _ (Le.refl _) s1 f0 none1⟩, ?_⟩
  rintro i k H2 ⟨rfl, hi, G2, acc, δ', xs, hI, ha, m2, f2, hD, rx, gD2, off2, s2⟩
  by_cases hlt : i < ds.length
  · refine .inr ⟨w.goes i G2 H2 hlt f2.gg m2.wd s2, fun H' => i + 1 ≤ ds.length ∧ ∃ G acc δ' xs, I (i + 1) acc δ' ∧ acc.length = i + 1 ∧ Mt X.K G H' (wipe σ (own.map (·.2))) (wipeC δ' (own.map (·.2))) ∧ Fr (feet δ1) G1 H1 (D :: feet (wipeC δ' (own.map (·.2)))) G H' ∧ H' D = some (.lst xs) ∧ RpA X.K G xs acc ∧ G D = none ∧ D ∉ feet (wipeC δ' (own.map (·.2))) ∧ S H',
      fun H' h => ⟨ds.length - (i + 1), by omega, rfl, h.1, h.2⟩, fun x H' y => ?_⟩
    obtain ⟨d, G3, hd, rd, w3, ex3⟩ := w.yields i G2 H2 x H' hlt f2.gg m2.wd s2 y
    obtain ⟨δ2, step⟩ := hIs i d acc δ' hd hI
    intro sb Hb Cb clb fpb
    obtain ⟨has, -⟩ := step sb Hb Cb clb fpb
    refine has.2 _ G3 H' x (m2.ext ex3 w3) rd _ fun σ4 m4 hw4 => ⟨hw4.trans (wipeTwice _ _), ?_⟩
    intro sb' Hb' Cb' clb' fpb'
    simp only [wpTs, tYes, if_true]
    intro sb Hb Cb clb fpb
    obtain ⟨-, hel⟩ := step sb Hb Cb clb fpb
    refine hel σ4 G3 H' m4 _ fun r δ3 v G6 H6 hI6 m6 rv f6 => ?_
    have hD3 : H' D = some (.lst xs) := ex3.hh D _ hD List.not_mem_nil
    have gD3 : G3 D = none := ex3.nn D _ hD gD2 List.not_mem_nil
    have offs2 : D ∉ feet δ2 := fun h => off2 (has.1 D h)
    have hD6 : H6 D = some (.lst xs) := f6.hh D _ hD3 offs2
    have gD6 : G6 D = none := f6.nn D _ hD3 gD3 offs2
    have off3 : D ∉ feet δ3 := fun h => (f6.ff D h).elim offs2 fun z => by rw [hD3] at z; cases z
    have off6 : D ∉ feet (wipeC δ3 (own.map (·.2))) := fun h => off3 (feetWipe h)
    have f36 : Fr (D :: feet (wipeC δ' (own.map (·.2)))) G3 H' (D :: feet (wipeC δ3 (own.map (·.2)))) G6 H6 := f6.mono (fun b hb => List.mem_cons_of_mem _ (has.1 b hb)) fun b hb => by
      rcases List.mem_cons.mp hb with z | z
      · exact .inr (.inl (by rw [z]; exact List.mem_cons_self))
      · exact .inl (feetWipe z)
    have f16 := f2.trans ((Ext.up ex3 _).trans f36)
    have m6w : Mt X.K G6 H6 (wipe σ (own.map (·.2))) (wipeC δ3 (own.map (·.2))) := by
      have z := m6.wipe (own.map (·.2))
      rw [hw4, wipeTwice] at z
      exact z
    have fw : Fr (D :: feet (wipeC δ3 (own.map (·.2)))) G6 H6 (D :: feet (wipeC δ3 (own.map (·.2)))) G6 (upd H6 D (.lst (xs ++ [v]))) := (Fr.wr (u := .lst (xs ++ [v])) gD6).mono (fun b hb => by rw [List.mem_singleton.mp hb]; exact List.mem_cons_self) fun b hb => .inr (.inl hb)
    have s6 : S (upd H6 D (.lst (xs ++ [v]))) := by
      have z := w.keeps _ G2 H2 _ G3 H' f2.gg s2 ex3 fun _ h => absurd h List.not_mem_nil
      have n3 : ∀ b ∈ feet δ2, G3 b = none := m4.none
      have z := w.keeps _ G3 H' _ G6 H6 (f2.gg.trans ex3.gg) z f6 n3
      exact w.keeps _ G6 H6 _ G6 _ f16.gg z (Fr.wr (u := .lst (xs ++ [v])) gD6) fun b hb => by rw [List.mem_singleton.mp hb]; exact gD6
    refine ⟨xs, hD6, ?_, hlt, G6, acc ++ [r], δ3, xs ++ [v], hI6, by rw [List.length_append, List.length_singleton, ha], m6w.wrD gD6 (lstNe _) (fun b hb z => off6 (by rw [← z]; exact hb)), f16.trans fw, upd_same, (rx.mono (ex3.gg.trans f6.gg)).app (.cons rv .nil), gD6, off6, s6⟩
    rw [rx.length, ha]
    exact small1000 (by omega)
  · have e : i = ds.length := by omega
    subst e
    refine .inl ⟨w.stops G2 H2 f2.gg m2.wd s2, ?_⟩
    have off2' : ∀ b ∈ feet (wipeC δ' (own.map (·.2))), b ≠ D := fun b hb z => off2 (by rw [← z]; exact hb)
    refine q (.list acc) _ (.ref D) (upd G2 D (.lst xs)) H2 (hIf acc δ' hI) ((m2.give hD off2' gD2).unwipe) (.lst upd_same (rx.mono (Le.upd gD2))) (fr1.trans ?_)
    refine ⟨f2.gg.trans (Le.upd gD2), f2.hh, fun b hb => f2.ff b (List.mem_cons_of_mem _ hb), fun b v e g0 nf => ?_⟩
    rw [upd_ne (ne_of_none e nD)]
    exact f2.nn b v e g0 nf
theorem EvI.compI (hc : X.calm = true) (hN : X.N.Nodup) (ok : BlkOk X.N X.env.scope scope own) (hit : EvIt X δ tg iter fun ds δ1 => ds.length ≤ 1000 ∧ ∃ I : Nat → List Dat → List Cell → Prop, I 0 [] δ1 ∧
      (∀ i d acc δ', ds[i]? = some d → I i acc δ' → ∃ δ2, Bk X scope fun X' => AsDV X' (wipeC δ' (own.map (·.2))) tg d δ2 (own.map (·.2)) ∧ EvI X' δ2 elt fun r δ3 => I (i + 1) (acc ++ [r]) δ3) ∧ ∀ acc δ', I ds.length acc δ' → Ψ (.list acc) (wipeC δ' (own.map (·.2))))
    (hs : ∀ x, foldedSetIterable iter X.env x = pure x := by intro _; rfl) : EvI X δ (.ListComp elt [⟨tg, iter, [], 0⟩] scope pos) Ψ := fun σ G H m Q q =>
  PE.w (pe_lc hc hN piW ok (fun _ _ _ _ _ => pgB) (fun _ _ _ _ _ => ptB) (fun _ _ _ _ _ => peB) hs) (lcI hit m q)
theorem RunS.setCompI {i : Nat} {y : Str} {py spos : Pos} {Φ : Out → Prop} (hc : X.calm = true) (hN : X.N.Nodup) (ok : BlkOk X.N X.env.scope scope own) (hit : EvIt X δ tg iter fun ds δ1 => ds.length ≤ 1000 ∧ ∃ I : Nat → List Dat → List Cell → Prop, I 0 [] δ1 ∧
      (∀ i d acc δ', ds[i]? = some d → I i acc δ' → ∃ δ2, Bk X scope fun X' => AsDV X' (wipeC δ' (own.map (·.2))) tg d δ2 (own.map (·.2)) ∧ EvI X' δ2 elt fun r δ3 => I (i + 1) (acc ++ [r]) δ3) ∧ ∀ acc δ', I ds.length acc δ' → Φ (.nx ((wipeC δ' (own.map (·.2))).set i (.im (.list acc)))))
    (hy : X.N[i]? = some y := by rfl) (hyl : X.env.scope.names.lookup y = some .local := by rfl) (hsw : swapsWith (.ListComp elt [⟨tg, iter, [], 0⟩] scope pos) (some (.Name y py)) spos.line X.env = pure true := by rfl) (hs : ∀ x, foldedSetIterable iter X.env x = pure x := by intro _; rfl) :
    RunS X δ (.Assign [.Name y py] (.ListComp elt [⟨tg, iter, [], 0⟩] scope pos) spos) Φ := fun σ G H m D p =>
  PS.w (ps_setLc hc hN hy hyl hsw piW ok (fun _ _ _ _ _ => pgB) (fun _ _ _ _ _ => ptB) (fun _ _ _ _ _ => peB) hs) (lcI (Ψ := fun d δ1 => Φ (.nx (δ1.set i (.im d)))) hit m fun d δ' v G' H' hd m' rv f =>
    p.nx _ _ G' H' hd ((m'.im rv).put i) (f.less fun b hb => noIm b hb))
/-! two clauses, nothing kept -/
theorem EvP.comp2nil {tg1 iter1 c : Expr} {vs1 : List Nat} {ds : List Dat} {f : Dat → List Cell} {ds1 : Dat → List Dat} {f1 : Dat → Dat → List Cell} (hc : X.calm = true) (hN : X.N.Nodup) (ok : BlkOk X.N X.env.scope scope own) (hv : ∀ i ∈ vs1, i ∈ own.map (·.2))
    (hit : EvItP X δ tg iter ds) (ha : ∀ d ∈ ds, Bk X scope fun X' => AsDV X' (wipeC δ (own.map (·.2))) tg d (f d) (own.map (·.2)))
    (hit1 : ∀ d ∈ ds, Bk X scope fun X' => EvItP X' (f d) tg1 iter1 (ds1 d)) (ha1 : ∀ d ∈ ds, ∀ d1 ∈ ds1 d, Bk X scope fun X' => AsDV X' (wipeC (f d) vs1) tg1 d1 (f1 d d1) vs1)
    (ht : ∀ d ∈ ds, ∀ d1 ∈ ds1 d, Bk X scope fun X' => EvTP X' (f1 d d1) c false) (hs : ∀ x, foldedSetIterable iter X.env x = pure x := by intro _; rfl) (hs1 : ∀ env x, foldedSetIterable iter1 env x = pure x := by intro _ _; rfl) :
    EvP X δ (.ListComp elt [⟨tg, iter, [], 0⟩, ⟨tg1, iter1, [c], 0⟩] scope pos) (.list []) := fun σ G H m Q q => by
  refine PE.w (pe_lc2 (wi1 := fun σ H R => Bk X scope fun X' => wpI X' tg1 iter1 σ H R) (vs1 := vs1) hc hN piW ok hv (fun _ _ _ _ _ => pgB) (fun _ _ _ _ _ => ptB) (fun s H C cl fp => ⟨fun pins s' σ' H' R I h => h s H C cl fp pins s' I⟩) (fun _ _ _ _ _ => pgB) (fun _ _ _ _ _ => ptB) (fun _ _ _ _ _ => peB) hs hs1) ?_
  refine hit σ G H m _ fun J S G1 H1 m1 ex1 w s1 D nD => ?_
  have offD : ∀ x ∈ feet (wipeC δ (own.map (·.2))), x ≠ D := fun x hx z => by
    obtain ⟨u, e⟩ := (m1.wipe _).all x hx
    rw [z, nD] at e; cases e
  have gD : G1 D = none := m1.wd.none nD
  have f0 : Fr [] G1 H1 [D] G1 (upd H1 D (.lst [])) := Fr.fresh m1.wd nD
  refine ⟨fun i k H => k = ds.length - i ∧ i ≤ ds.length ∧ ∃ G, Mt X.K G H (wipe σ (own.map (·.2))) (wipeC δ (own.map (·.2))) ∧ Fr [] G1 H1 [D] G H ∧ H D = some (.lst []) ∧ G D = none ∧ S H,
    ⟨_, rfl, Nat.zero_le _, G1, (m1.wipe _).wrD gD (lstNe _) offD, f0, upd_same, gD, w.keeps _ G1 H1 _ G1 _ (Le.refl _) s1 f0 fun _ h => absurd h List.not_mem_nil⟩, ?_⟩
  rintro i k H2 ⟨rfl, hi, G2, m2, f2, hD, gD2, s2⟩
  by_cases hlt : i < ds.length
  · refine .inr ⟨w.goes i G2 H2 hlt f2.gg m2.wd s2, fun H' => i + 1 ≤ ds.length ∧ ∃ G, Mt X.K G H' (wipe σ (own.map (·.2))) (wipeC δ (own.map (·.2))) ∧ Fr [] G1 H1 [D] G H' ∧ H' D = some (.lst []) ∧ G D = none ∧ S H', fun H' h => ⟨ds.length - (i + 1), by omega, rfl, h.1, h.2⟩, fun x H' y => ?_⟩
    obtain ⟨d, G3, hd, rd, w3, ex3⟩ := w.yields i G2 H2 x H' hlt f2.gg m2.wd s2 y
    have hm := List.mem_of_getElem? hd
    intro sb Hb Cb clb fpb
    refine (ha d hm sb Hb Cb clb fpb).2 _ G3 H' x (m2.ext ex3 w3) rd _ fun σ4 m4 hw4 => ⟨hw4.trans (wipeTwice _ _), ?_⟩
    intro sb Hb Cb clb fpb
    simp only [wpTs, tYes, if_true]
    intro sb Hb Cb clb fpb
    refine hit1 d hm sb Hb Cb clb fpb σ4 G3 H' m4 _ fun J1 S1 G4 H4 m5 ex4 w1 s4 => ?_
    have stepE : ∀ (G6 H6 : Hp), Wd G6 H6 → Ext G2 H2 G6 H6 → i + 1 ≤ ds.length ∧ ∃ G, Mt X.K G H6 (wipe σ (own.map (·.2))) (wipeC δ (own.map (·.2))) ∧ Fr [] G1 H1 [D] G H6 ∧ H6 D = some (.lst []) ∧ G D = none ∧ S H6 := fun G6 H6 w6 ex6 =>
      ⟨hlt, G6, m2.ext ex6 w6, f2.trans (Ext.up ex6 [D]), ex6.hh D _ hD List.not_mem_nil, ex6.nn D _ hD gD2 List.not_mem_nil, w.keeps _ G2 H2 _ G6 H6 f2.gg s2 ex6 fun _ h => absurd h List.not_mem_nil⟩
    refine ⟨fun j k H => k = (ds1 d).length - j ∧ j ≤ (ds1 d).length ∧ ∃ G, Wd G H ∧ Ext G4 H4 G H ∧ S1 H, ⟨_, rfl, Nat.zero_le _, G4, m5.wd, Fr.refl _ _ _, s4⟩, ?_⟩
    rintro j k H5 ⟨rfl, hj, G5, w5, ex5, s5⟩
    by_cases hlt1 : j < (ds1 d).length
    · refine .inr ⟨w1.goes j G5 H5 hlt1 ex5.gg w5 s5, fun H' => j + 1 ≤ (ds1 d).length ∧ ∃ G, Wd G H' ∧ Ext G4 H4 G H' ∧ S1 H', fun H' h => ⟨(ds1 d).length - (j + 1), by omega, rfl, h.1, h.2⟩, fun x1 H6 y1 => ?_⟩
      obtain ⟨d1, G6, hd1, rd1, w6, ex6⟩ := w1.yields j G5 H5 x1 H6 hlt1 ex5.gg w5 s5 y1
      have hm1 := List.mem_of_getElem? hd1
      have m6 := (m5.ext ex5 w5).ext ex6 w6
      intro sb Hb Cb clb fpb
      refine (ha1 d hm d1 hm1 sb Hb Cb clb fpb).2 _ G6 H6 x1 (m6.wipe vs1) rd1 _ fun σ7 m7 hw7 => ⟨hw7.trans (wipeTwice _ _), ?_⟩
      intro sb Hb Cb clb fpb
      refine ht d hm d1 hm1 sb Hb Cb clb fpb σ7 G6 H6 m7 _ fun G8 H8 w8 ex8 => ?_
      rw [if_neg Bool.false_ne_true]
      refine ⟨hlt1, G8, w8, ex5.trans (ex6.trans ex8), w1.keeps _ G5 H5 _ G8 H8 ex5.gg s5 (ex6.trans ex8) fun _ h => absurd h List.not_mem_nil⟩
    · have e : j = (ds1 d).length := by omega
      subst e
      exact .inl ⟨w1.stops G5 H5 ex5.gg w5 s5, stepE G5 H5 w5 (ex3.trans (ex4.trans ex5))⟩
  · have e : i = ds.length := by omega
    subst e
    refine .inl ⟨w.stops G2 H2 f2.gg m2.wd s2, ?_⟩
    exact q (.ref D) (upd G2 D (.lst [])) H2 (.lst upd_same .nil) (m2.wd.give hD) (ex1.trans (f2.giveD nD gD2))
end
/-! stores of several -/
section
variable {X : Cx} {δ : List Cell} {a b c e : Expr} {Φ : Out → Prop} {pos : Pos}
theorem Mt.two {K : PySem.W.Frag} {G H G' H' : Hp} {σ : SS} {v w : V} {r1 r2 : Cell} {δ1 δ2 : List Cell} (m1 : Mt K G H (some v :: σ) (r1 :: δ1)) (m2 : Mt K G' H' (some w :: σ) (r2 :: δ2)) (f : Fr (feet δ1) G H (feet (r2 :: δ2)) G' H') : Mt K G' H' (some v :: some w :: σ) (r1 :: r2 :: δ2) :=
  m1.frame m2 f
theorem RunS.par2 {i j : Nat} {x y : Str} {px py pt pt2 : Pos} {kt k2 : Nat} (h : Ev X δ a fun r1 δ1 => Ev X δ1 b fun r2 δ2 => Φ (.nx ((δ2.set i r1).set j r2))) (hc : X.calm = true) (hN : X.N.Nodup) (hi : X.N[i]? = some x := by rfl) (hj : X.N[j]? = some y := by rfl) (hij : i ≠ j := by decide)
    (hx : X.env.scope.names.lookup x = some .local := by rfl) (hy : X.env.scope.names.lookup y = some .local := by rfl) (hw : swappedStores [.Tuple [.Name x px, .Name y py] kt pt] (.Tuple [a, b] k2 pt2) X.env = pure (some [x, y]) := by rfl)
    (hs : swapsWithSole [.Tuple [.Name x px, .Name y py] kt pt] (.Tuple [a, b] k2 pt2) pos.line X.env = pure false := by rfl) (he : starEach [a, b] X.env = (false, eval a X.env) :: starEach [b] X.env := by rfl) (he2 : starEach [b] X.env = (false, eval b X.env) :: starEach [] X.env := by rfl) :
    RunS X δ (.Assign [.Tuple [.Name x px, .Name y py] kt pt] (.Tuple [a, b] k2 pt2) pos) Φ := fun σ G H m D p => by
  refine PS.w (ps_par hc hN hi hj hij hx hy (pa_cons peW (pa_cons peW pa_nil he2) he) hw hs) (h σ G H m _ fun r1 δ1 v G1 H1 h1 m1 f1 => h1 σ G1 H1 m1.tail _ fun r2 δ2 u G2 H2 h2 m2 f2 => ⟨v, u, rfl, ?_⟩)
  have m3 := m1.frame m2 f2
  refine p.nx _ _ G2 H2 h2 (((m3.put (i + 1)).put j)) (f1.trans ?_)
  have f3 := Fr.consC (F := []) (F' := []) r1 δ1 (r2 :: δ2) f2
  refine f3.less fun b hb => ?_
  rw [feet_cons, feet_cons]
  rcases feet_set hb with z | z
  · rcases feet_set z with z | z
    · exact List.mem_append_right _ (List.mem_append_right _ z)
    · exact List.mem_append_left _ z
  · exact List.mem_append_right _ (List.mem_append_left _ z)
theorem RunS.par3 {i j l : Nat} {x y z : Str} {px py pz pt pt2 : Pos} {kt k2 : Nat} (h : Ev X δ a fun r1 δ1 => Ev X δ1 b fun r2 δ2 => Ev X δ2 c fun r3 δ3 => Φ (.nx (((δ3.set i r1).set j r2).set l r3))) (hc : X.calm = true) (hN : X.N.Nodup) (hi : X.N[i]? = some x := by rfl) (hj : X.N[j]? = some y := by rfl) (hl : X.N[l]? = some z := by rfl) (hij : i ≠ j := by decide) (hil : i ≠ l := by decide) (hjl : j ≠ l := by decide)
    (hx : X.env.scope.names.lookup x = some .local := by rfl) (hy : X.env.scope.names.lookup y = some .local := by rfl) (hz : X.env.scope.names.lookup z = some .local := by rfl) (hw : swappedStores [.Tuple [.Name x px, .Name y py, .Name z pz] kt pt] (.Tuple [a, b, c] k2 pt2) X.env = pure (some [x, y, z]) := by rfl)
    (hs : swapsWithSole [.Tuple [.Name x px, .Name y py, .Name z pz] kt pt] (.Tuple [a, b, c] k2 pt2) pos.line X.env = pure false := by rfl) (he : starEach [a, b, c] X.env = (false, eval a X.env) :: starEach [b, c] X.env := by rfl) (he2 : starEach [b, c] X.env = (false, eval b X.env) :: starEach [c] X.env := by rfl) (he3 : starEach [c] X.env = (false, eval c X.env) :: starEach [] X.env := by rfl) :
    RunS X δ (.Assign [.Tuple [.Name x px, .Name y py, .Name z pz] kt pt] (.Tuple [a, b, c] k2 pt2) pos) Φ := fun σ G H m D p => by
  refine PS.w (ps_par3 hc hN hi hj hl hij hil hjl hx hy hz (pa_cons peW (pa_cons peW (pa_cons peW pa_nil he3) he2) he) hw hs) (h σ G H m _ fun r1 δ1 v G1 H1 h1 m1 f1 => h1 σ G1 H1 m1.tail _ fun r2 δ2 u G2 H2 h2 m2 f2 => h2 σ G2 H2 m2.tail _ fun r3 δ3 t G3 H3 h3 m3 f3 => ⟨v, u, t, rfl, ?_⟩)
  have m4 := m2.frame m3 f3
  have f4 := Fr.consC (F := []) (F' := []) r2 δ2 (r3 :: δ3) f3
  have f24 := f2.trans f4
  have m5 := m1.frame m4 f24
  refine p.nx _ _ G3 H3 h3 ((((m5.put (i + 2)).put (j + 1)).put l)) (f1.trans ?_)
  have f5 := Fr.consC (F := []) (F' := []) r1 δ1 (r2 :: r3 :: δ3) f24
  refine f5.less fun b hb => ?_
  rw [feet_cons, feet_cons, feet_cons]
  rcases feet_set hb with z | z
  · rcases feet_set z with z | z
    · rcases feet_set z with z | z
      · exact List.mem_append_right _ (List.mem_append_right _ (List.mem_append_right _ z))
      · exact List.mem_append_left _ z
    · exact List.mem_append_right _ (List.mem_append_left _ z)
  · exact List.mem_append_right _ (List.mem_append_right _ (List.mem_append_left _ z))
/-- a target of any form is given data -/
theorem RunS.asg {tg : Expr} (h : EvI X δ e fun d δ1 => ∃ δ2, AsD X δ1 tg d δ2 ∧ Φ (.nx δ2)) (hs : swapsWithSole [tg] e pos.line X.env = pure false := by rfl) (hw : swappedStores [tg] e X.env = pure none := by rfl) (h1 : (assignEach [tg] X.env).map (·.2) = [assign tg X.env] := by rfl) : RunS X δ (.Assign [tg] e pos) Φ := fun σ G H m D p =>
  PS.w (ps_asg peW pgW hs hw h1) (h σ G H m _ fun d δ1 v G1 H1 ⟨δ2, ha, hp⟩ m1 r1 f1 => ha.2 σ G1 H1 v m1 r1 _ fun σ' m2 => p.nx δ2 σ' G1 H1 hp m2 (f1.less ha.1))
end
end K94
end

/-! text KR -/
section
set_option Elab.async false
set_option linter.all false
set_option maxRecDepth 100000
set_option maxHeartbeats 4000000
set_option autoImplicit true
/-! sorted(..) over data -/
namespace K94
open PySem PySem.Spec PyProof.Rows L2
open PySem.W (kas_first_eq kas_mapM Looks EachIs AllAlike Sortable dataLt dataLe keyToks keyToksAll alike alikeAll SortsAt dataKind sortVals)

section
variable {K : PySem.W.Frag} {G : Hp}
/-- a value and its datum -/
def VD (K : PySem.W.Frag) (G : Hp) (v : Value) (d : Dat) : Prop := ∃ x, RelV x v ∧ Rp K G x d
theorem eachVD : ∀ {xs : List V} {vs : List Value} {ds : List Dat}, Vals xs vs → RpA K G xs ds → EachIs (VD K G) vs ds
  | _, _, _, .nil, .nil => .nil
  | _, _, _, .cons r t, .cons p q => .cons ⟨_, r, p⟩ (eachVD t q)
theorem eachOut : ∀ {vs : List Value} {ds : List Dat}, EachIs (VD K G) vs ds → ∃ xs, Vals xs vs ∧ RpA K G xs ds
  | _, _, .nil => ⟨[], .nil, .nil⟩
  | _, _, .cons ⟨x, r, p⟩ t => by
    obtain ⟨xs, h1, h2⟩ := eachOut t
    exact ⟨x :: xs, .cons r h1, .cons p h2⟩
theorem eachRd {X : Cx} {pins : List (Addr × Obj)} {σ : SS} {G H : Hp} {s : Shared} (g : Gx X) (I : Inv X pins σ H s) (w : Wd G H) : ∀ {vs : List Value} {ds : List Dat}, EachIs (VD X.K G) vs ds → EachIs (fun v d => ∃ as, Reads s.heap v d.py as) vs ds
  | _, _, .nil => .nil
  | _, _, .cons ⟨x, r, p⟩ t => by
    obtain ⟨as, h, _⟩ := p.reads g.sm I w r
    exact .cons ⟨as, h⟩ (eachRd g I w t)
theorem eachMono {R R' : Value → Dat → Prop} (h : ∀ v d, R v d → R' v d) : ∀ {vs : List Value} {ds : List Dat}, EachIs R vs ds → EachIs R' vs ds
  | _, _, .nil => .nil
  | _, _, .cons r t => .cons (h _ _ r) (eachMono h t)
end
/-- sorted, by data -/
def srt (ds : List Dat) : List Dat := ds.mergeSort (dataLe false Dat.py)
theorem srtPerm (ds : List Dat) : (srt ds).Perm ds := List.mergeSort_perm _ _
section
variable {X : Cx} {ds : List Dat}
/-- the new list -/
theorem sortedOut {pins : List (Addr × Obj)} {σ : SS} {G H : Hp} {s : Shared} {Q : VK} {its out : List Value} {es : List Dat} (I : Inv X pins σ H s) (w : Wd G H) (e : EachIs (VD X.K G) out es) (hl : es.length ≤ sizeLine)
    (q : ∀ (z : V) (G' H' : Hp), Rp X.K G' z (.list es) → Wd G' H' → Ext G H G' H' → Q z H') : EP X pins σ Q (.ref (s.heap.objs.size + 1)) { s with heap := sortedAll s.heap its out.toArray } := by
  obtain ⟨xs, h1, h2⟩ := eachOut e
  obtain ⟨ep, at_⟩ := PyProof.Rows.sortedAll_at s.heap its out.toArray
  have np : H (s.heap.objs.size + 1) = none := I.hok.fresh (Nat.le_succ _)
  have ex := Ext.new (o := .lst xs) w np
  exact ⟨.ref _, _, I.laid (t' := s.toks) (fun _ _ => PyProof.Rows.sortedAll_old) (Nat.le_succ _) (show ObjOk X.prog X.w _ _ _ (.lst xs) from ⟨by rw [h2.length]; exact hl, out, ep, h1, at_⟩), rfl, q _ _ _ (.lst upd_same (h2.mono ex.gg)) (w.new np) ex⟩
theorem CallD.sorted (g : Gx X) (hal : AllAlike (ds.map Dat.py)) (hk : Sortable (ds.map Dat.py)) (hd : ∀ d ∈ ds, d.py.depth ≤ 50) (hl : ds.length ≤ 1000) : CallD X (.builtin "sorted") [.list ds] (.list (srt ds)) := fun G H vs Q w r q pins s σ us I rv => by
  obtain ⟨v, rfl, r1⟩ := rpa1 r
  cases r1 with
  | @lst a xs _ ga ra =>
    obtain ⟨u, rfl, ru⟩ := vals1 rv
    cases ru
    obtain ⟨its, rt, pl, hz⟩ := I.list (SqL.of (w.lstH ga))
    have e := eachVD rt ra
    have hL : ds.length ≤ sizeLine := Nat.le_of_lt (small1000 hl)
    refine PySem.W.sorted_data pl.isList e (eachRd g I w e) hal hk hL (fun d hm => by have := g.hu; have := hd d hm; omega) fun out ho eo => ?_
    exact sortedOut I w eo (by have := (srtPerm ds).length_eq; show (srt ds).length ≤ _; rw [this]; exact hL) q
end
/-! ### tuples of texts, the first of them empty -/
section
variable {prog : Program} {w : World} {A : Around} {E : Value → Shared → Prop} {s : Shared}
theorem rdTup {h : Heap} {v : Value} {xs : List PyData} {as : List Addr} (r : Reads h v (.tuple xs) as) : ∃ l o its n, v = .ref l ∧ h.get? l = some o ∧ o.cls = .type "tuple" ∧ o.data = .seq its n ∧ ReadsAll h its.toList xs as := by
  cases r with
  | @tuple l o its n _ _ h1 h2 h3 h4 => exact ⟨l, o, its, n, rfl, h1, h2, h3, h4⟩
theorem tupLt {a b : Value} {xs ys : List PyData} {as bs : List Addr} {Q : Bool → Shared → Prop} (ra : Reads s.heap a (.tuple xs) as) (rb : Reads s.heap b (.tuple ys) bs) (h : alikeAll xs ys = true) (hu : A.units + min (PyData.tuple xs).depth (PyData.tuple ys).depth < cLine)
    (hq : Q (dataLt (.tuple xs) (.tuple ys)) s) : wpAny (model prog w) A (oneLt' true a b) Q E s := by
  obtain ⟨l, o, vs, n, rfl, h1, h2, h3, h4⟩ := rdTup ra
  obtain ⟨l', o', vs', n', rfl, k1, k2, k3, k4⟩ := rdTup rb
  have n1 : vs.size = xs.length := by simpa using SeqAt.ReadsAll.length _ _ _ h4
  have n2 : vs'.size = ys.length := by simpa using SeqAt.ReadsAll.length _ _ _ k4
  rw [PySem.W.dataLt_tuple, ← PySem.W.firstLt_toks xs ys h, ← n1, ← n2] at hq
  rw [oneLt'_eq]
  simp only [if_true]
  refine wpAny_bind (wpAny_cRoomFor (SeqAt.room_here hu) ?_)
  obtain ⟨cls, dd, data, sl⟩ := o
  obtain ⟨cls2, dd2, data2, sl2⟩ := o'
  simp only at h2 h3 k2 k3
  subst h2 h3 k2 k3
  refine wpAny_bind (wpAny_callSpecialIfBound?_slot (T := "tuple") ⟨_, h1, rfl⟩ F.slot_tuple_lt (call_meets F.slot_tuple_lt ⟨_, h1, rfl⟩ F.entry_tuple_lt (F.args_tuple_lt_2 _ _) (SeqAt.tuple_ltAt l l' vs vs' n n' dd dd2 sl sl2 (SeqAt.pairEq xs ys) (fun j => dataLt (xs.getD j .none) (ys.getD j .none))) ⟨h1, k1, fun j j1 j2 => ?_, fun j j1 j2 hj => ?_, ?_⟩))
  · have := PySem.W.eqAt_alikeAll xs ys A.in1 s vs.toList vs'.toList _ _ h4 k4 h (SeqAt.room_in hu) j (by simpa using j1) (by simpa using j2)
    simpa using this
  · have := PySem.W.rcLt_alikeAll xs ys A.in1 s vs.toList vs'.toList _ _ h4 k4 h (SeqAt.room_in hu) j (by simpa using j1) (by simpa using j2) hj
    simpa using this
  · exact wpAny_truthy_bool hq
/-- the first is no tuple with an item, all are tuples -/
theorem kindEmpty {M : Model} {A : Around} {E : Value → Shared → Prop} {s : Shared} {vs : List Value} {ds : List PyData} {Q : SortKind → Shared → Prop} (e : EachIs (fun v d => ∃ as, Reads s.heap v d as) vs ds) (ht : ∀ d ∈ ds, ∃ xs, d = .tuple xs) (h0 : ds[0]? = some (.tuple [])) (hq : Q oneType' s) :
    wpAny M A (keyKind' vs.toArray) Q E s := by
  have firsts : ∀ {vs : List Value} {ds : List PyData}, EachIs (fun v d => ∃ as, Reads s.heap v d as) vs ds → (∀ d ∈ ds, ∃ xs, d = .tuple xs) → ∀ {Q : List (Option Value) → Shared → Prop}, (∀ os : List (Option Value), (ds[0]? = some (.tuple []) → os[0]? = some none) → Q os s) → wpAny M A (vs.mapM firstOfTuple') Q E s := by
    intro vs ds e
    induction e with
    | nil => intro _ Q h; rw [List.mapM_nil]; exact wpAny_pure (h [] (by simp))
    | @cons v d vs ds r t ih =>
      intro hd Q h
      obtain ⟨xs, rfl⟩ := hd _ List.mem_cons_self
      obtain ⟨as, r⟩ := r
      obtain ⟨l, o, its, n, rfl, h1, h2, h3, h4⟩ := rdTup r
      rw [List.mapM_cons]
      refine wpAny_bind ?_
      rw [kas_first_eq]
      refine wpAny_bind (Looks.here (show Looks M s.heap (typeOf (.ref l)) o.cls from (Looks.ld h1).andThen .now) ?_)
      rw [h2, if_neg (by first | decide | simp)]
      refine wpAny_bind (listItems_at h1 h3 (wpAny_pure ?_))
      refine wpAny_bind (ih (fun d hm => hd d (List.mem_cons_of_mem _ hm)) fun os _ => wpAny_pure (h _ fun z => ?_))
      have z : xs = [] := by simpa using z
      subst z
      have e2 : its.toList = [] := by
        generalize its.toList = l at h4
        cases h4
        rfl
      have e3 : its[0]? = none := by
        rw [← Array.getElem?_toList, e2]; rfl
      simp [e3]
  have types : ∀ {vs : List Value} {ds : List PyData}, EachIs (fun v d => ∃ as, Reads s.heap v d as) vs ds → (∀ d ∈ ds, ∃ xs, d = .tuple xs) → ∀ v ∈ vs, Looks M s.heap (typeOf v) (.type "tuple") := by
    intro vs ds e hd v hv
    obtain ⟨d, hm, as, r⟩ := e.left v hv
    obtain ⟨xs, rfl⟩ := hd d hm
    obtain ⟨l, o, its, n, rfl, h1, h2, _⟩ := rdTup r
    rw [← h2]
    exact (Looks.ld h1).andThen .now
  obtain ⟨v₁, rest, rfl⟩ : ∃ v₁ rest, vs = v₁ :: rest := by
    cases e with
    | nil => simp at h0
    | cons => exact ⟨_, _, rfl⟩
  rw [kat_kind_eq, List.mapM_toArray, map_eq_pure_bind]
  refine wpAny_bind (wpAny_bind (firsts e ht fun os h => wpAny_pure ?_))
  have ho := h h0
  obtain ⟨os', rfl⟩ : ∃ os', os = none :: os' := by
    cases os with
    | nil => simp at ho
    | cons o os' =>
      have z : o = none := by simpa using ho
      exact ⟨os', by rw [z]⟩
  rw [if_neg (by simp), if_neg (by simp)]
  rw [oneTypeOnly'_eq, List.mapM_toArray, map_eq_pure_bind]
  refine wpAny_bind (wpAny_bind (wpAny_bind (kas_mapM (r := Value.type "tuple") _ (fun v hv Q' hq => (types e ht v hv).here hq) (wpAny_pure ?_))))
  have hall : ((List.map (fun _ => Value.type "tuple") (v₁ :: rest)).toArray.all fun x => x == Value.type "tuple") = true := by
    simp only [List.all_toArray, List.all_map, List.all_eq_true]
    intro _ _
    exact beq_self_eq_true _
  have h1 : (List.map (fun _ => Value.type "tuple") (v₁ :: rest)).toArray[0]? = some (Value.type "tuple") := by simp
  rw [h1]
  simp only [hall, if_true]
  exact wpAny_pure (wpAny_pure hq)
theorem sortsEmpty {vs : List Value} {ds : List PyData} (e : EachIs (fun v d => ∃ as, Reads s.heap v d as) vs ds) (hal : AllAlike ds) (ht : ∀ d ∈ ds, ∃ xs, d = .tuple xs) (h0 : ds[0]? = some (.tuple [])) (hu : ∀ d, d ∈ ds → A.units + d.depth < cLine) : SortsAt prog w A s (dataKind s.heap ds) vs := by
  refine ⟨fun v hv => ?_, oneType', ?_, fun _ E Q hq => kindEmpty e ht h0 hq⟩
  · obtain ⟨d, hd, as, r⟩ := e.left v hv
    exact ⟨_, PySem.W.dataKind_some hal hd r⟩
  · intro E x y a b Q ha hb hq
    obtain ⟨d, as, hd, ra, rfl⟩ := PySem.W.dataKind_inv ha
    obtain ⟨d', as', hd', rb, rfl⟩ := PySem.W.dataKind_inv hb
    have hdd := hal d hd d' hd'
    have room := hu d hd
    obtain ⟨xs, rfl⟩ := ht d hd
    obtain ⟨ys, rfl⟩ := ht d' hd'
    rw [keyLt'_oneType]
    exact tupLt ra rb (by simpa [alike] using hdd) (Nat.lt_of_le_of_lt (Nat.add_le_add_left (Nat.min_le_left _ _) _) room) hq
end
section
variable {X : Cx} {ds : List Dat}
theorem CallD.sortedE (g : Gx X) (hal : AllAlike (ds.map Dat.py)) (ht : ∀ d ∈ ds, ∃ xs, d.py = .tuple xs) (h0 : ds[0]? = some (.tuple [])) (hd : ∀ d ∈ ds, d.py.depth ≤ 50) (hl : ds.length ≤ 1000) : CallD X (.builtin "sorted") [.list ds] (.list (srt ds)) := fun G H vs Q w r q pins s σ us I rv => by
  obtain ⟨v, rfl, r1⟩ := rpa1 r
  cases r1 with
  | @lst a xs _ ga ra =>
    obtain ⟨u, rfl, ru⟩ := vals1 rv
    cases ru
    obtain ⟨its, rt, pl, hz⟩ := I.list (SqL.of (w.lstH ga))
    have e := eachVD rt ra
    have hL : ds.length ≤ sizeLine := Nat.le_of_lt (small1000 hl)
    have er := eachRd g I w e
    have er' : EachIs (fun v d => ∃ as, Reads (PySem.W.sortingHeap (PySem.W.copyHeap s.heap its) (s.heap.objs.size + 1) its) v (Dat.py d) as) its ds := eachMono (fun _ _ ⟨as, r⟩ => ⟨as, PyProof.Rows.Reads.keeps (fun _ _ => PySem.W.sorting_copy_old) r⟩) er
    have lz : its.length ≤ sizeLine := by rw [← rt.length]; exact hz
    refine PySem.W.sorted_vals (κ := dataKind (PySem.W.sortingHeap (PySem.W.copyHeap s.heap its) (s.heap.objs.size + 1) its) (ds.map Dat.py)) pl.isList (sortsEmpty (s := { s with heap := PySem.W.sortingHeap (PySem.W.copyHeap s.heap its) (s.heap.objs.size + 1) its }) (PySem.W.each_map (R := fun v d => ∃ as, Reads (PySem.W.sortingHeap (PySem.W.copyHeap s.heap its) (s.heap.objs.size + 1) its) v d as) Dat.py er') hal (fun d hm => ?_) (by rw [List.getElem?_map, h0]; rfl) (fun d hm => ?_)) lz ?_
    · obtain ⟨d0, hm0, rfl⟩ := List.mem_map.mp hm
      exact ht d0 hm0
    · obtain ⟨d0, hm0, rfl⟩ := List.mem_map.mp hm
      have := g.hu
      have := hd d0 hm0
      show X.A.units + 1 + 1 + _ < _
      omega
    · have eo := PySem.W.sortVals_data (h' := PySem.W.sortingHeap (PySem.W.copyHeap s.heap its) (s.heap.objs.size + 1) its) (R := VD X.K G) (enc := Dat.py) false e er' hal
      exact sortedOut I w eo (by have := (srtPerm ds).length_eq; show (srt ds).length ≤ _; rw [this]; exact hL) q
end
end K94
end

/-! text KS -/
section
set_option Elab.async false
set_option linter.all false
set_option maxRecDepth 100000
set_option maxHeartbeats 4000000
set_option autoImplicit true
/-! more built-ins over data -/
namespace K94
open PySem PySem.Spec PyProof.Rows L2
open PySem.W (EachIs AllAlike Sortable dataLt dataLe alike alikeAll SortsAt dataKind sortVals)

section
variable {X : Cx} {δ : List Cell} {a b c e o : Expr} {es : List Expr} {d d0 d1 d2 d3 : Dat} {ds as : List Dat} {p pos cpos apos q2 : Pos} {x : Str}
/-! a < b -/
theorem Cmp2.ltD (g : Gx X) (h : alike d1.py d2.py = true) (hn : d1.py ≠ .none) (hd : d1.py.depth ≤ 50) : Cmp2 X (compareOp .Lt) d1 d2 (dataLt d1.py d2.py) := fun G H v u Q w rv ru qq pins s σ v1 u1 I r1 r2 => by
  obtain ⟨as, ra, _⟩ := rv.reads g.sm I w r1
  obtain ⟨bs, rb, _⟩ := ru.reads g.sm I w r2
  exact PySem.W.rcLt_alike d1.py d2.py X.A s v1 u1 as bs ra rb h hn (by have := g.hu; omega) X.prog X.w _ _ ⟨.bl _, H, I, rfl, qq⟩
/-! a op b op c, ints, the first holds or not -/
theorem EvTP.chain {op op' : CmpOp} {k1 k2 : Bool} (ha : EvP X δ a d1) (hb : EvP X δ b d2) (hc : EvP X δ c d3) (h1 : Cmp2 X (compareOp op) d1 d2 k1) (h2 : Cmp2 X (compareOp op') d2 d3 k2) (hm : lastMarks [op, op'] [b, c] = false := by with_unfolding_all rfl) :
    EvTP X δ (.Compare a [op, op'] [b, c] pos) (k1 && k2) := fun σ G H m Q qq => by
  refine PT.w (pt_chain opW opW peW peW peW hm) (oneP m ha fun x G1 H1 m1 r1 f1 => oneP m1 hb fun y G2 H2 m2 r2 f2 => h1 G2 H2 x y _ m2.wd (r1.mono f2.gg) r2 ⟨k1, rfl, ?_⟩)
  cases k1 with
  | true =>
    rw [if_pos rfl]
    exact oneP m2 hc fun z G3 H3 m3 r3 f3 => h2 G3 H3 y z _ m3.wd (r2.mono f3.gg) r3 ⟨k2, rfl, qq G3 H3 m3.wd (f1.trans (f2.trans f3))⟩
  | false =>
    rw [if_neg Bool.false_ne_true]
    exact ⟨false, rfl, qq G2 H2 m2.wd (f1.trans f2)⟩
/-! the new tuple is known as an object -/
theorem CallD.tupF {as : List Dat} : CallD X (.type "tuple") [.list as] (.ftup as) := fun G H vs Q w r qq pins s σ us I rv => by
  obtain ⟨v, rfl, r1⟩ := rpa1 r
  cases r1 with
  | @lst a xs _ ga ra =>
    obtain ⟨u, rfl, ru⟩ := vals1 rv
    cases ru
    obtain ⟨its, rt, pl, hz⟩ := I.list (SqL.of (w.lstH ga))
    have hlen := rt.length
    refine call_tuple_list pl.isList (fun h' kp => ?_) (by simp only [List.size_toArray]; omega)
    have I1 : Inv X pins σ H { s with heap := h' } := I.kept (t' := s.toks) kp
    have np : H h'.objs.size = none := I1.hok.fresh (Nat.le_refl _)
    have I2 : Inv X pins σ (upd H h'.objs.size (.frz { cls := .type "tuple", data := .seq its.toArray } (.tup xs))) { s with heap := h'.push { cls := .type "tuple", data := .seq its.toArray } } :=
      I1.laid (t' := s.toks) (fun b o e => Heap.get?_push_of_some _ e) (Nat.le_refl _) (show ObjOk X.prog X.w _ _ _ (.frz _ (.tup xs)) from ⟨Heap.get?_push_size _ rfl, hz, its, rt, IsTup.new _ _⟩)
    have ex := Ext.new (o := .frz { cls := .type "tuple", data := .seq its.toArray } (.tup xs)) w np
    exact ⟨.ref h'.objs.size, _, I2, rfl, qq _ _ _ (.ftup upd_same rfl (ra.mono ex.gg)) (w.new np) ex⟩
/-! isinstance(a, T) -/
def TypD : Dat → String → Prop
  | .str _, T => T = "str"
  | .tuple _, T => T = "tuple"
  | .ftup _, T => T = "tuple"
  | _, _ => False
theorem EvP.isInst {T : String} {y : Str} {py : Pos} (ha : EvP X δ a d) (ht : TypD d T) (hm : X.mg "isinstance" = none) (hy : X.mg y = none) (hv : bootBuiltins y = some (.type T) := by decide +kernel) (hT : (kitB T T) = some true := by decide +kernel)
    (hg : Gl X "isinstance" := by rfl) (hgy : Gl X y := by rfl) (hny : y ≠ "__name__" := by decide) (hdy : (y == ("__debug__" : Str)) = false := by decide)
    (he : starEach [a, .Name y py] X.env = (false, eval a X.env) :: starEach [.Name y py] X.env := by rfl) (he2 : starEach [.Name y py] X.env = (false, eval (.Name y py) X.env) :: starEach [] X.env := by rfl) (hpl : (backTo pos (starEach [.Name y py] X.env)).any (·.1) = false := by rfl) :
    EvP X δ (.Call (.Name "isinstance" p) [a, .Name y py] [] pos) (.bool true) := fun σ G H m Q qq => by
  refine PE.w (pe_callB call_isi hg hm (by decide +kernel) (pa_cons peW (pa_cons (pe_bltn (v := .ty T) hgy hy hv rfl hny hdy) pa_nil he2) he) (by decide) (by decide) he hpl) (oneP m ha fun v G1 H1 m1 r1 f1 => ?_)
  refine ⟨v, .ty T, .type T, .type T, true, rfl, .ty T, ?_, kit_ty hT, qq _ G1 H1 (.bl true) m1.wd f1⟩
  cases r1 with
  | str x => rw [show T = "str" from ht]; exact .base (.str x)
  | tup ga ra => rw [show T = "tuple" from ht]; exact .base (.tup (m1.wd.tupH ga))
  | ftup ga hn ra => rw [show T = "tuple" from ht]; exact .fTuple (m1.wd.frzT ga)
  | _ => exact ht.elim
/-! dict(l), l of pairs (text, ..) -/
def dictOf (ps : List (L2.Key × Dat)) : List (Dat × Dat) := ps.foldl (fun acc p => dputK acc p.1 p.2) []
theorem mergeRp {K : PySem.W.Frag} {G : Hp} {ps : List (L2.Key × Dat)} {kvs : List (L2.Key × V)} (p : Paired (fun (q : L2.Key × V) (p : L2.Key × Dat) => q.1 = p.1 ∧ Rp K G q.2 p.2) kvs ps) : ∀ {acc : List (L2.Key × V)} {dd : List (Dat × Dat)}, RpK K G acc dd → RpK K G (mergeK acc kvs) (ps.foldl (fun acc p => dputK acc p.1 p.2) dd) := by
  induction p with
  | nil => intro acc dd h; exact h
  | @cons a b l m h1 t ih =>
    intro acc dd h
    obtain ⟨e, r⟩ := h1
    have z := h.put a.1 r
    have := ih z
    rw [List.foldl_cons, ← e]
    exact this
theorem CallD.dictP (g : Gx X) {ps : List (L2.Key × Dat)} : CallD X (.type "dict") [.list (ps.map fun p => .tuple [kD p.1, p.2])] (.dict (dictOf ps)) := fun G H vs Q w r qq => by
  obtain ⟨v, rfl, r1⟩ := rpa1 r
  cases r1 with
  | @lst a xs _ ga ra =>
    have get : ∀ {ps : List (L2.Key × Dat)} {xs : List V}, RpA X.K G xs (ps.map fun p => Dat.tuple [kD p.1, p.2]) → ∃ (as : List Addr) (kvs : List (L2.Key × V)), xs = as.map V.ref ∧ Paired (fun p kv => SqT X.K H p [kV kv.1, kv.2]) as kvs ∧ Paired (fun (q : L2.Key × V) (p : L2.Key × Dat) => q.1 = p.1 ∧ Rp X.K G q.2 p.2) kvs ps := by
      intro ps
      induction ps with
      | nil => intro xs h; cases h; exact ⟨[], [], rfl, .nil, .nil⟩
      | cons p ps ih =>
        intro xs h
        cases h with
        | cons r t =>
          obtain ⟨as, kvs, rfl, h2, h3⟩ := ih t
          cases r with
          | @tup b ys _ gb rb =>
            obtain ⟨v1, v2, rfl, r1, r2⟩ := rpa2 rb
            have e : v1 = kV p.1 := by
              generalize hk : p.1 = kk at r1
              cases kk with
              | inl i => cases r1; rfl
              | inr i => cases r1; rfl
            subst e
            exact ⟨b :: as, (p.1, v2) :: kvs, rfl, .cons (SqT.of (w.tupH gb)) h2, .cons ⟨rfl, r2⟩ h3⟩
    obtain ⟨as, kvs, rfl, h2, h3⟩ := get ra
    refine CallR.w (call_dictP g.calm) ⟨a, as, kvs, rfl, SqL.of (w.lstH ga), h2, fun p np => ?_⟩
    have ex := Ext.new (o := .dK (mergeK [] kvs)) w np
    exact qq _ _ _ (.dk upd_same ((mergeRp h3 .nil).mono ex.gg)) (w.new np) ex
/-! list(d) -/
theorem CallD.listK (g : Gx X) {ps : List (Dat × Dat)} (ha : Atoms ps) : CallD X (.type "list") [.dict ps] (.list (ps.map (·.1))) := fun G H vs Q w r qq => by
  obtain ⟨v, rfl, r1⟩ := rpa1 r
  obtain ⟨q, kvs, rfl, gq, rk⟩ := r1.dictK ha
  refine CallR.w (call_listD g.calm) ⟨q, kvs, rfl, w.rd gq, fun p np => ?_⟩
  have ex := Ext.new (o := .lst (kvs.map fun kv => kV kv.1)) w np
  refine qq _ _ _ (.lst upd_same ?_) (w.new np) ex
  rw [rk.keys, show (kvs.map fun kv => kV kv.1) = (kvs.map (·.1)).map kV by rw [List.map_map]; rfl]
  exact rpKeys _
/-! list(range(a, b)) -/
theorem EvP.listRange {n m : Nat} {pr q3 : Pos} (ha : EvP X δ a (.int n)) (hb : EvP X δ b (.int m)) (hn : n ≤ 1000) (hm2 : m ≤ 1000) (g : Gx X) (hml : X.mg "list" = none) (hmr : X.mg "range" = none) (hgl : Gl X "list" := by rfl) (hgr : Gl X "range" := by rfl)
    (na : starEach [a, b] X.env = (false, eval a X.env) :: starEach [b] X.env := by rfl) (nb : starEach [b] X.env = (false, eval b X.env) :: starEach [] X.env := by rfl) (hp : (backTo q3 (starEach [b] X.env)).any (·.1) = false := by rfl)
    (nl : starEach [.Call (.Name "range" pr) [a, b] [] q3] X.env = (false, eval (.Call (.Name "range" pr) [a, b] [] q3) X.env) :: starEach [] X.env := by rfl) :
    EvP X δ (.Call (.Name "list" p) [.Call (.Name "range" pr) [a, b] [] q3] [] pos) (.list (rangeD n (m - n))) := fun σ G H mt Q qq => by
  refine PE.w (pe_listRg g.calm hgl hml (prg_2 hgr hmr peW peW na nb hp) nl) ?_
  refine oneP mt ha fun x G1 H1 m1 r1 f1 => ?_
  cases r1
  refine oneP m1 hb fun y G2 H2 m2 r2 f2 => ?_
  cases r2
  refine ⟨n, m, rfl, rfl, RgOk.of_le (by omega) (by omega) (by omega) (by omega), fun q nq => ?_⟩
  have ex := Ext.new (o := .lst (rgV n m)) m2.wd nq
  refine qq _ _ _ (.lst upd_same ?_) (m2.wd.new nq) (f1.trans (f2.trans ex))
  have e1 : ((m : Int) - (n : Int)).toNat = m - n := by omega
  have e2 : rgV (n : Int) (m : Int) = ((List.range (m - n)).map fun (i : Nat) => (n : Int) + i).map V.int := by
    unfold rgV
    rw [e1, List.map_map]; rfl
  have e3 : rangeD (n : Int) (m - n) = ((List.range (m - n)).map fun (i : Nat) => (n : Int) + i).map Dat.int := by
    unfold rangeD
    rw [List.map_map]; rfl
  rw [e2, e3]
  exact RpA.ofInts _
/-! (*a, b) -/
theorem EvP.tupStar {x1 : Nat} {ps : Pos} (ha : EvP X δ a (.tuple as)) (hb : EvP X δ b d) (hl : as.length ≤ 999) (hs : starEach (.Starred a ps :: [b]) X.env = (true, eval a X.env) :: starEach [b] X.env := by rfl) (hs2 : starEach [b] X.env = (false, eval b X.env) :: starEach [] X.env := by rfl) :
    EvP X δ (.Tuple [.Starred a ps, b] x1 pos) (.tuple (as ++ [d])) := fun σ G H m Q qq => by
  refine PE.w (pe_tup (StX.pa_star peW (pa_cons peW pa_nil hs2) hs)) (oneP m ha fun v G1 H1 m1 r1 f1 => ?_)
  cases r1 with
  | @tup q xs _ gq rq =>
    refine ⟨q, xs, rfl, .inl (SqT.of (m1.wd.tupH gq)), oneP m1 hb fun u G2 H2 m2 r2 f2 => ⟨?_, fun r nr => ?_⟩⟩
    · rw [List.length_append, rq.length]
      exact Nat.le_of_lt (small1000 (by simpa using hl))
    · have ex := Ext.new (o := .tup (xs ++ [u])) m2.wd nr
      exact qq _ _ _ (.tup upd_same (((rq.mono f2.gg).app (.cons r2 .nil)).mono ex.gg)) (m2.wd.new nr) (f1.trans (f2.trans ex))
/-! l[::-1] -/
theorem EvP.rev {kk : Nat} {p1 p2 p3 : Pos} (ha : EvP X δ a (.list as)) : EvP X δ (.Subscript a (.Slice none none (some (.UnaryOp .USub (.Constant (.int 1) kk p1) p2)) p3) pos) (.list as.reverse) := fun σ G H m Q qq => by
  refine PE.w (pe_revL peW) (oneP m ha fun v G1 H1 m1 r1 f1 => ?_)
  cases r1 with
  | @lst q xs _ gq rq =>
    refine ⟨q, xs, rfl, SqL.of (m1.wd.lstH gq), fun r nr => ?_⟩
    have ex := Ext.new (o := .lst xs.reverse) m1.wd nr
    exact qq _ _ _ (.lst upd_same (rq.rev.mono ex.gg)) (m1.wd.new nr) (f1.trans ex)
/-! zip of two tuples of one length -/
def zipD (as bs : List Dat) : List Dat := (as.zip bs).map fun p => Dat.tuple [p.1, p.2]
theorem zipD_len {as bs : List Dat} : (zipD as bs).length = min as.length bs.length := by
  unfold zipD
  rw [List.length_map, List.length_zip]
theorem walkD_zipT {K : PySem.W.Frag} {G0 : Hp} {p q : Addr} {xs ys : List V} {as bs : List Dat} (h : G0 p = some (.tup xs)) (h2 : G0 q = some (.tup ys)) (r : RpA K G0 xs as) (r2 : RpA K G0 ys bs) : WalkD K (RZ.ItzT K p q) G0 (fun _ => True) (zipD as bs) where
  goes := fun i G H hi l w _ => by
    rw [zipD_len] at hi
    have h1 : i < xs.length := by rw [r.length]; omega
    have h3 : i < ys.length := by rw [r2.length]; omega
    exact ⟨xs, ys, xs[i], ys[i], SqT.of (w.tupH (l _ _ h)), SqT.of (w.tupH (l _ _ h2)), List.getElem?_eq_getElem h1, List.getElem?_eq_getElem h3⟩
  stops := fun G H l w _ => by
    rw [zipD_len]
    refine ⟨xs, ys, SqT.of (w.tupH (l _ _ h)), SqT.of (w.tupH (l _ _ h2)), ?_⟩
    rw [r.length, r2.length]
    omega
  yields := fun i G H x H' hi l w _ y => by
    obtain ⟨T, v, u, rfl, nT, rfl, e1, e2⟩ := y
    rw [zipD_len] at hi
    obtain ⟨d1, k1, r1⟩ := r.get (e1 xs (SqT.of (w.tupH (l _ _ h))))
    obtain ⟨d2, k2, r2⟩ := r2.get (e2 ys (SqT.of (w.tupH (l _ _ h2))))
    have ex := Ext.new (o := .tup [v, u]) w nT
    refine ⟨.tuple [d1, d2], _, ?_, .tup upd_same (.cons ((r1.mono l).mono ex.gg) (.cons ((r2.mono l).mono ex.gg) .nil)), w.new nT, ex⟩
    unfold zipD
    rw [List.getElem?_map]
    have : (as.zip bs)[i]? = some (d1, d2) := by
      rw [List.getElem?_zip_eq_some]
      exact ⟨k1, k2⟩
    rw [this]; rfl
  keeps := fun _ _ _ _ _ _ _ _ _ _ => trivial
theorem EvItP.zipT {elts : List Expr} {kk : Nat} {tpos : Pos} {bs : List Dat} (ha : EvP X δ a (.tuple as)) (hb : EvP X δ b (.tuple bs)) (hm : X.mg "zip" = none) (hg : Gl X "zip" := by rfl)
    (hs : starEach [a, b] X.env = (false, eval a X.env) :: starEach [b] X.env := by rfl) (hs2 : starEach [b] X.env = (false, eval b X.env) :: starEach [] X.env := by rfl) (hpl : (backTo pos (starEach [b] X.env)).any (·.1) = false := by rfl) :
    EvItP X δ (.Tuple elts kk tpos) (.Call (.Name "zip" p) [a, b] [] pos) (zipD as bs) := fun σ G H m R qq => by
  refine PI.w (RZ.pi_zipA hg hm (pa_cons peW (pa_cons peW pa_nil hs2) hs) hs hpl) (twoP m ha hb fun v u G2 H2 m2 r1 r2 f2 => ?_)
  cases r1 with
  | @tup p1 xs _ g1 k1 =>
    cases r2 with
    | @tup p2 ys _ g2 k2 => exact ⟨p1, p2, xs, ys, rfl, .inr ⟨SqT.of (m2.wd.tupH g1), SqT.of (m2.wd.tupH g2), qq _ _ G2 H2 m2 f2 (walkD_zipT g1 g2 k1 k2) trivial⟩⟩
/-! len(set(l)), sorted of a tuple of texts -/
end
/-! sorted(t), t a tuple of texts -/
section
variable {X : Cx}
theorem alikeStrs (ks : List Str) : AllAlike ((dS ks).map Dat.py) := fun d hd d' hd' => by
  rw [List.map_map] at hd hd'
  obtain ⟨a, _, rfl⟩ := List.mem_map.mp hd
  obtain ⟨b, _, rfl⟩ := List.mem_map.mp hd'
  rfl
theorem sortableStrs (ks : List Str) : Sortable ((dS ks).map Dat.py) := .inr fun d hd => by
  rw [List.map_map] at hd
  obtain ⟨a, _, rfl⟩ := List.mem_map.mp hd
  refine ⟨?_, fun xs => ?_⟩
  · show PyData.str a ≠ .none
    exact fun z => nomatch z
  · show PyData.str a ≠ .tuple xs
    exact fun z => nomatch z
theorem CallD.sortedT (g : Gx X) {ks : List Str} (hl : ks.length ≤ 1000) : CallD X (.builtin "sorted") [tS ks] (.list (srt (dS ks))) := fun G H vs Q w r q pins s σ us I rv => by
  obtain ⟨v, rfl, r1⟩ := rpa1 r
  cases r1 with
  | @tup a xs _ ga ra =>
    obtain ⟨u, rfl, ru⟩ := vals1 rv
    cases ru
    obtain ⟨its, rt, pl, hz⟩ := I.tuple (SqT.of (w.tupH ga))
    have e := eachVD rt ra
    have hL : (dS ks).length ≤ sizeLine := by rw [List.length_map]; exact Nat.le_of_lt (small1000 hl)
    have lz : its.length ≤ sizeLine := by rw [← rt.length]; exact hz
    obtain ⟨o, ho, hc, n, hd⟩ := id pl
    refine Calls.call_function_entry kind_sorted plain_sorted entry_sorted (args_sorted1 _) ?_
    unfold Builtin.«sorted»
    refine wpAny_bind (m := checkCount "sorted" 1 1 _) (wpAny_pure ?_)
    refine wpAny_bind (wpAny_collect_seq a (.inr rfl) ho hc hd (fun h' kp => ?_) (by simpa using lz))
    refine wpAny_bind (wpAny_newList ?_ (by simpa using lz))
    have hoL : (h'.push (seqObj "list" its.toArray 0)).get? h'.objs.size = some (seqObj "list" its.toArray 0) := Heap.get?_push_size _ rfl
    have er := eachRd g I w e
    have old : ∀ b o, s.heap.get? b = some o → (PySem.W.sortingHeap (h'.push (seqObj "list" its.toArray 0)) h'.objs.size its).get? b = some o := fun b o eb => by
      have hlt : b < h'.objs.size := Heap.lt_size (kp b o eb)
      exact PySem.W.sortingHeap_old (Nat.ne_of_lt hlt) (Heap.get?_push_of_some _ (kp b o eb))
    have er' : EachIs (fun v d => ∃ as, Reads (PySem.W.sortingHeap (h'.push (seqObj "list" its.toArray 0)) h'.objs.size its) v (Dat.py d) as) its (dS ks) := eachMono (fun _ _ ⟨as, r⟩ => ⟨as, PyProof.Rows.Reads.keeps old r⟩) er
    have S : SortsAt X.prog X.w X.A.in1.in1 { s with heap := PySem.W.sortingHeap (h'.push (seqObj "list" its.toArray 0)) h'.objs.size its } (dataKind (PySem.W.sortingHeap (h'.push (seqObj "list" its.toArray 0)) h'.objs.size its) ((dS ks).map Dat.py)) its :=
      SortsAt.data (s := { s with heap := PySem.W.sortingHeap (h'.push (seqObj "list" its.toArray 0)) h'.objs.size its }) (PySem.W.each_map (R := fun v d => ∃ as, Reads (PySem.W.sortingHeap (h'.push (seqObj "list" its.toArray 0)) h'.objs.size its) v d as) Dat.py er') (alikeStrs ks) (sortableStrs ks) fun d hm => by
        rw [List.map_map] at hm
        obtain ⟨z, _, rfl⟩ := List.mem_map.mp hm
        have := g.hu
        show X.A.units + 1 + 1 + 0 < _
        omega
    have eo := PySem.W.sortVals_data (h' := PySem.W.sortingHeap (h'.push (seqObj "list" its.toArray 0)) h'.objs.size its) (R := VD X.K G) (enc := Dat.py) false e er' (alikeStrs ks)
    have I1 : Inv X pins σ H { s with heap := h' } := I.kept (t' := s.toks) kp
    obtain ⟨ep, at_⟩ := sortedHeap_at (out := (sortVals (dataKind (PySem.W.sortingHeap (h'.push (seqObj "list" its.toArray 0)) h'.objs.size its) ((dS ks).map Dat.py)) false its its).toArray) hoL
    obtain ⟨ys, h1, h2⟩ := eachOut eo
    have np : H h'.objs.size = none := I1.hok.fresh (Nat.le_refl _)
    have ex := Ext.new (o := .lst ys) w np
    have fin : EP X pins σ Q (.ref h'.objs.size) { s with heap := sortedHeap (h'.push (seqObj "list" its.toArray 0)) h'.objs.size its (sortVals (dataKind (PySem.W.sortingHeap (h'.push (seqObj "list" its.toArray 0)) h'.objs.size its) ((dS ks).map Dat.py)) false its its).toArray } := by
      refine ⟨.ref _, _, I1.laid (t' := s.toks) (fun b o eb => ?_) (Nat.le_refl _) (show ObjOk X.prog X.w _ _ _ (.lst ys) from ⟨?_, _, ep, h1, at_⟩), rfl, q _ _ _ (.lst upd_same (h2.mono ex.gg)) (w.new np) ex⟩
      · have hlt : b < h'.objs.size := Heap.lt_size eb
        rw [sortedHeap_old (Nat.ne_of_lt hlt) (by rw [Heap.size_push]; exact Nat.lt_succ_of_lt hlt)]
        exact Heap.get?_push_of_some _ eb
      · rw [h2.length]
        have := (srtPerm (dS ks)).length_eq
        show (srt (dS ks)).length ≤ _
        rw [this]; exact hL
    refine wpAny_bind (wpAny_holding (wpAny_call_entry slot_list_sort ⟨_, hoL, rfl⟩ entry_list_sort (PySem.W.list_sort_vals (s := { s with heap := h'.push (seqObj "list" its.toArray 0) }) hoL S lz ?_) (args_list_sort _)))
    exact ⟨_, rfl, wpAny_pure ⟨_, rfl, fin⟩⟩
end
end K94
end

/-! text KT -/
section
set_option Elab.async false
set_option linter.all false
set_option maxRecDepth 100000
set_option maxHeartbeats 4000000
set_option autoImplicit true
/-! len(set(t)) of texts -/
namespace K94
open PySem PySem.Spec PyProof.Rows L2
open PySem.Froz (SD sObj TxOk addTx add_ok add_x)

section
variable {P : Program} {w : World} {A : Around} {E : Value → Shared → Prop} {s : Shared}
/-- the set's own loop over texts that differ -/
theorem texts_loop {I : Addr} {fp wr : List Addr} {GG : Array GenState → Array GenState → Prop} {n : Nat} {Pv : Nat → Value → Prop} {St : Nat → Shared → Prop} {R : Result → Shared → Prop} (W : WalksS P w A.in1 I fp wr GG n Pv St) (S : Addr) (offS : S ∉ fp)
    (zs : List Str) (hn : n = zs.length) (nd : zs.Nodup) (hb : zs.length + 1 < scanBound) (hval : ∀ i v, Pv i v → ∃ k t, zs[i]? = some k ∧ v = .str k t) :
    ∀ (k i : Nat) (s : Shared), n - i = k → i ≤ n → St i s → (∃ D : SD, s.heap.get? S = some (sObj "set" D) ∧ TxOk P w D (zs.take i).reverse) →
      (∀ s' D, Moved (S :: wr) GG s s' → s'.heap.get? S = some (sObj "set" D) → TxOk P w D zs.reverse → R (.ok (.ret .none)) s') → codeAny (model P w) A (.builtin "set.update.loop" ⟨[.ref S, .ref I], []⟩) R s := by
  have offW : S ∉ wr := fun h => offS (W.sub _ h)
  have more : ∀ b ∈ wr, b ∈ S :: wr := fun b hb => List.mem_cons_of_mem _ hb
  intro k
  induction k with
  | zero =>
    intro i s hk hi hst ⟨D, hD, hT⟩ hR
    have e : i = n := by omega
    subst e
    refine codeAny_builtin F.entry_set_update_loop ?_
    rw [Around.under_plainId F.plain_set_update_loop _]
    show wpAny _ A.in1 (pyNext (.ref I) >>= _) _ _ s
    refine wpAny_bind (W.done s _ _ hst fun s1 hm => ?_)
    show wpAny _ A.in1 (ret Value.none) _ _ s1
    have e2 : zs.take i = zs := List.take_of_length_le (by omega)
    rw [e2] at hT
    exact wpAny_pure (hR s1 D (hm.mono more) (hm.heap S _ offW hD) hT)
  | succ k ih =>
    intro i s hk hi hst ⟨D, hD, hT⟩ hR
    have hlt : i < n := by omega
    refine codeAny_builtin F.entry_set_update_loop ?_
    rw [Around.under_plainId F.plain_set_update_loop _]
    show wpAny _ A.in1 (pyNext (.ref I) >>= _) _ _ s
    refine wpAny_bind (W.item i s _ _ hlt hst fun v s1 hP hst1 hm => ?_)
    obtain ⟨z, t, hz, rfl⟩ := hval i v hP
    have hD1 : s1.heap.get? S = some (sObj "set" D) := hm.heap S _ offW hD
    show wpAny _ A.in1 (holding [Value.str z t] (setAdd S (.str z t)) >>= _) _ _ s1
    refine wpAny_bind (wpAny_holding ?_)
    unfold setAdd
    refine wpAny_holding (wpAny_bind ((strKind P w).pyHash (k := z) (PySem.Froz.is_str z t) ?_))
    have hlen : (zs.take i).reverse.length = i := by rw [List.length_reverse, List.length_take]; omega
    have hil : i < zs.length := by omega
    have ez : zs[i] = z := by rw [List.getElem?_eq_getElem hil] at hz; exact Option.some.inj hz
    have hnew : z ∉ (zs.take i).reverse := fun hmem => by
      rw [List.mem_reverse] at hmem
      obtain ⟨j, hj, ej⟩ := List.getElem_of_mem hmem
      rw [List.getElem_take] at ej
      rw [List.length_take] at hj
      have hji : j < i := by omega
      exact absurd (ej.trans ez.symm) (List.pairwise_iff_getElem.mp nd j i (by omega) hil hji)
    refine add_x (s := { s1 with toks := s1.toks + 1 }) hD1 hT hnew (by rw [hlen]; omega) ?_
    have hO : (sObj "set" (addTx (hashStr w z) (.str z t) D)).isFreed = false := rfl
    have hS2 := PySem.Froz.get_upd (sObj "set" (addTx (hashStr w z) (.str z t) D)) hD1 hO
    have hT2 : TxOk P w (addTx (hashStr w z) (.str z t) D) (zs.take (i + 1)).reverse := by
      rw [List.take_add_one, hz]
      have := add_ok (k := z) t hT
      simpa using this
    have sb : Heap.SameBut S s1.heap (s1.heap.update S (fun _ => sObj "set" (addTx (hashStr w z) (.str z t) D))) := Heap.SameBut.update ..
    refine wpAny_pure ⟨plainId_quiet F.plain_set_update_loop _, ih (i + 1) _ (by omega) hlt (W.frame _ s1 _ _ hst1 (Nat.le_succ _) fun b hb2 o e => ?_) ⟨_, hS2, hT2⟩ fun s2 D2 hm2 hD2 hT3 => ?_⟩
    · rw [sb.2 b fun z : b = S => offS (by rw [← z]; exact hb2)]; exact e
    · refine hR s2 D2 (Moved.trans W.gtrans ((hm.mono more).then_heap (Nat.le_succ _) fun b o hb2 e => ?_) hm2) hD2 hT3
      rw [sb.2 b fun z : b = S => hb2 (by rw [z]; exact List.mem_cons_self)]; exact e
/-- set(t), the texts of t differ -/
theorem set_texts {l : Addr} {items : Array Value} (zs : List Str) {Q : Value → Shared → Prop} (hh : A.handled = none) (hl : s.heap.IsTuple l items) (hz : ∀ (i : Nat) (v : Value), items[i]? = some v → ∃ k t, zs[i]? = some k ∧ v = .str k t) (hsz : items.size = zs.length) (nd : zs.Nodup) (hb : zs.length + 1 < scanBound)
    (h : ∀ (h' : Heap) (tk : Nat) (D : SD), h'.get? s.heap.objs.size = some (sObj "set" D) → TxOk P w D zs.reverse → (∀ b o, s.heap.get? b = some o → h'.get? b = some o) → Q (.ref s.heap.objs.size) { s with heap := h', toks := tk }) : wpAny (model P w) A (call (.type "set") [.ref l]) Q E s := by
  obtain ⟨cc, tl, mroS⟩ := F.called_set.mro
  have madeS := F.called_set.made
  have subS := F.called_set.sub
  refine wpAny_call (codeAny_of_tree ?_)
  show wpAny _ _ (callAny (.type "set") _) _ _ _
  refine wpAny_pure ⟨Code.quiet_builtin _ (by decide +kernel), codeAny_builtin F.entry_type_call ?_⟩
  rw [Around.under_plain (weight_type_call_type "set" [.ref l] []) rfl]
  have notT := F.called_set.notType
  have canC := F.called_set.canCreate
  have okC := F.typeCall_set_1 (.ref l)
  repeat (any_goals (first | assumption | wp_step))

  refine codeAny_mono (L2.code_set_led1 (.ref l) (E := E) (Q₁ := fun obj s1 => obj = .ref s.heap.objs.size ∧ s1 = { s with heap := s.heap.push ({ cls := .type "set", dict := none, data := .set #[] 0 (.fresh 0 0 (!w.params.followText "set-order")) } : Obj) }) ⟨rfl, rfl⟩) fun r s1 hr => ?_
  cases r with
  | error e => exact hr
  | ok fl =>
    cases fl with
    | ret obj =>
      obtain ⟨rfl, rfl⟩ := hr
      have atS : (s.heap.push ({ cls := .type "set", dict := none, data := .set #[] 0 (.fresh 0 0 (!w.params.followText "set-order")) } : Obj)).get? s.heap.objs.size = some ({ cls := .type "set", dict := none, data := .set #[] 0 (.fresh 0 0 (!w.params.followText "set-order")) } : Obj) := Heap.get?_push_size _ rfl
      have tyS : Shared.TypeIs { s with heap := s.heap.push ({ cls := .type "set", dict := none, data := .set #[] 0 (.fresh 0 0 (!w.params.followText "set-order")) } : Obj) } (.ref s.heap.objs.size) "set" := ⟨_, atS, rfl⟩
      have look := F.called_set.init.lookup
      have bind_ := F.called_set.init.bind (.ref s.heap.objs.size)
      repeat (any_goals (first | assumption | wp_step))

      refine codeAny_mono (codeAny_call_builtin (R := wants (fun r s2 => r = .none ∧ ∃ h' tk D, s2 = { s with heap := h', toks := tk } ∧ h'.get? s.heap.objs.size = some (sObj "set" D) ∧ TxOk P w D zs.reverse ∧ (∀ b o, s.heap.get? b = some o → h'.get? b = some o)) E) F.called_set.init.plain F.entry_set_init (check_set_init_1 tyS ?_)) fun r2 s2 hr2 => ?_
      · obtain ⟨⟨oc, odct, odat, osl⟩, hol, hcl, nl, hdl⟩ := hl
        simp only at hcl hdl
        subst hcl; subst hdl
        have hol' : (s.heap.push ({ cls := .type "set", dict := none, data := .set #[] 0 (.fresh 0 0 (!w.params.followText "set-order")) } : Obj)).get? l = some { cls := .type "tuple", dict := odct, data := .seq items nl, slots := osl } := Heap.get?_push_of_some _ hol
        have no1 := F.sub_tuple_set
        have no2 := F.sub_tuple_frozenset
        have no3 : (Value.type "tuple" == Value.type "dict") = false := by decide
        have isT : (s.heap.push ({ cls := .type "set", dict := none, data := .set #[] 0 (.fresh 0 0 (!w.params.followText "set-order")) } : Obj)).IsTuple l items := ⟨_, hol', rfl, nl, rfl⟩
        unfold Builtin.«set.__init__» noKeywords Builtin.Frozenset.updateFrom
        generalize hPI : pyIter = PI
        wp_walk
        subst hPI

        refine wpAny_pyIter_tuple isT ?_
        refine wpAny_bind (wpAny_runValue ?_)
        have lS : l < s.heap.objs.size := Heap.lt_size hol
        have h3 : A.in1.in1.in1.handled = none := by simp [hh]
        have size1 : (s.heap.push ({ cls := .type "set", dict := none, data := .set #[] 0 (.fresh 0 0 (!w.params.followText "set-order")) } : Obj)).objs.size = s.heap.objs.size + 1 := Heap.size_push ..
        have ne1 : l ≠ (s.heap.push ({ cls := .type "set", dict := none, data := .set #[] 0 (.fresh 0 0 (!w.params.followText "set-order")) } : Obj)).objs.size := by rw [size1]; exact Nat.ne_of_lt (Nat.lt_succ_of_lt lS)
        have offS : s.heap.objs.size ∉ [(s.heap.push ({ cls := .type "set", dict := none, data := .set #[] 0 (.fresh 0 0 (!w.params.followText "set-order")) } : Obj)).objs.size, l] := by
          rw [size1]
          simp only [List.mem_cons, List.not_mem_nil, or_false, not_or]
          exact ⟨Nat.ne_of_lt (Nat.lt_succ_self _), Nat.ne_of_gt lS⟩
        have at2 : ((s.heap.push ({ cls := .type "set", dict := none, data := .set #[] 0 (.fresh 0 0 (!w.params.followText "set-order")) } : Obj)).push { cls := .type "tuple_iterator", data := .fields #[.ref l, .int 0 0] }).get? s.heap.objs.size = some (sObj "set" (#[], 0, .fresh 0 0 (!w.params.followText "set-order"))) := by
          exact Heap.get?_push_of_some _ atS
        refine texts_loop ((Walks.tuple h3 _ l ne1 items).toS) s.heap.objs.size offS zs hsz nd hb hz (items.size - 0) 0 _ rfl (Nat.zero_le _) ⟨⟨_, Heap.get?_push_size _ rfl, rfl, rfl⟩, (isT.push _)⟩ ⟨_, at2, ?_⟩ fun s3 D3 hm hD3 hT3 => ?_
        · rw [List.take_zero, List.reverse_nil]
          exact TxOk.nil (by first | rfl | decide | simp [SetTable.fits, SetTable.fresh])
        · obtain ⟨hp3, g3, d3, tk3, os3⟩ := s3
          have eg : g3 = s.gens := hm.gens
          have ed : d3 = s.drawn := hm.drawn
          have eo : os3 = s.os := hm.os
          subst eg; subst ed; subst eo
          show wpAny _ _ _ _ _ _
          refine wpAny_pure ?_
          show wpAny _ _ (ret Value.none) _ _ _
          refine wpAny_pure ⟨rfl, hp3, tk3, D3, rfl, hD3, hT3, fun b o e => ?_⟩
          have b0 : b < s.heap.objs.size := Heap.lt_size e
          refine hm.heap b o ?_ (Heap.get?_push_of_some _ (Heap.get?_push_of_some _ e))
          rw [size1]
          simp only [List.mem_cons, List.not_mem_nil, or_false, not_or]
          exact ⟨Nat.ne_of_lt b0, Nat.ne_of_lt (Nat.lt_succ_of_lt b0)⟩

      · cases r2 with
        | error e => exact hr2
        | ok fl2 =>
          cases fl2 with
          | ret r =>
            obtain ⟨rfl, h', tk, D, rfl, hD, hT, hk⟩ := hr2
            repeat (any_goals (first | assumption | wp_step))
            exact h _ _ _ hD hT hk
          | _ => exact hr2.elim
    | _ => exact hr.elim
end
section
variable {X : Cx} {δ : List Cell} {a : Expr} {p p2 q pos : Pos}
theorem EvP.lenSet {ks : List Str} (g : Gx X) (ha : EvP X δ a (tS ks)) (nd : ks.Nodup) (hl : ks.length ≤ 100) (hm : X.mg "len" = none) (hm2 : X.mg "set" = none) (hg : Gl X "len" := by rfl) (hg2 : Gl X "set" := by rfl) (na : starEach [a] X.env = (false, eval a X.env) :: starEach [] X.env := by rfl) :
    EvP X δ (.Call (.Name "len" p) [.Call (.Name "set" p2) [a] [] q] [] pos) (.int ks.length) := fun σ G H m Q qq pins s I => by
  refine Call_ (ld_blt I hg hm boot_len ?_)
  refine PyProof.Rows.callWith_builtin1 (PyProof.Rows.args_cons ?_ rfl) rfl rfl
  refine Call_ (ld_blt I hg2 hm2 boot_set ?_)
  refine PyProof.Rows.callWith_type1 (PyProof.Rows.args_cons (thn (oneP m ha (Q := fun v H1 => ∃ G1, Rp X.K G1 v (tS ks) ∧ Wd G1 H1 ∧ Ext G H G1 H1) (fun v G1 H1 m1 r1 f1 => ⟨G1, r1, m1.wd, f1⟩) pins s I) fun u s1 ⟨x, H1, I1, r1, G1, rx, w1, ex⟩ => PyProof.Rows.args_nil ?_) na) na rfl
  cases rx with
  | @tup l xs _ gl rl =>
    have e := rl.strs
    subst e
    cases r1
    obtain ⟨its, rv, pl, hz⟩ := I1.tuple (SqT.of (w1.tupH gl))
    have hlen : its.length = ks.length := by rw [← rv.length, List.length_map]
    refine set_texts ks (I1.ok.hd g.calm) pl (fun i v hv => ?_) (by rw [List.size_toArray, hlen]) nd (by unfold scanBound; omega) fun h' tk D hD hT hk => ?_
    · have hi : i < its.length := by
        have := (Array.getElem?_eq_some_iff.mp hv).1
        simpa using this
      have hv2 : its[i]? = some v := by simpa using hv
      have hk2 : (ks.map V.str)[i]? = some (V.str (ks[i]'(by omega))) := by simp [show i < ks.length by omega]
      obtain ⟨u, hu, ru⟩ := rv.get hk2
      rw [hv2] at hu
      cases hu
      obtain ⟨t, rfl⟩ := ru
      exact ⟨_, t, List.getElem?_eq_getElem (by omega), rfl⟩
    · refine PyProof.Rows.args_nil ?_
      have I2 : Inv X pins σ H1 { s1 with heap := h', toks := tk } := I1.kept hk
      have sz : D.1.size = ks.length := by rw [hT.sz, List.length_reverse]
      refine call_len_set hD ⟨rfl, rfl, rfl⟩ rfl hT.fit (by rw [sz]; omega) ⟨.int ks.length, H1, I2.tok _, ⟨_, by rw [sz]⟩, qq _ G1 H1 (.int _) w1 ex⟩
end
end K94
end

/-! text KU -/
section
set_option Elab.async false
set_option linter.all false
set_option maxRecDepth 100000
set_option maxHeartbeats 4000000
set_option autoImplicit true
/-! enumerate(t) of a tuple; sorted(set(l)); sorted deeds -/
namespace K94
open PySem PySem.Spec PyProof.Rows L2
open PySem.W (EachIs AllAlike Sortable dataLt dataLe alike alikeAll SortsAt dataKind sortVals keyToks keyToksAll)
open AutoSeq1 (wpAny_loadPart')

/-! ### enumerate of a tuple -/
theorem meets_enumT (l : Addr) (items : Array Value) (n : Nat) (dct : Option Addr) (sl : Array (Option Value)) :
    Meets (Builtin.«enumerate.__new__» ⟨[.type "enumerate", .ref l], []⟩) (fun _ R s => s.heap.get? l = some { cls := .type "tuple", dict := dct, data := .seq items n, slots := sl } ∧
      R (.ok (.ret (.ref (s.heap.push { cls := .type "tuple_iterator", data := .fields #[.ref l, .int 0 0] }).objs.size)))
        { s with heap := (s.heap.push { cls := .type "tuple_iterator", data := .fields #[.ref l, .int 0 0] }).push { cls := .type "enumerate", data := .fields #[.none, .bool false, .ref s.heap.objs.size, rawInt 0, .none, .none] } }) :=
  .of_wp fun prog w A R s h => by
    obtain ⟨hp, g, d, tk, os⟩ := s
    obtain ⟨hl, h⟩ := h
    have subE := sub_enumerate
    have isT : Heap.IsTuple (Shared.heap ⟨hp, g, d, tk, os⟩) l items := ⟨_, hl, rfl, n, rfl⟩
    wp_walk using wpAny_loadPart' hl
    refine wpAny_stack_any fun st => wpAny_pure ?_
    split
    · rename_i c _ _ _ _ _
      cases (c == Value.type "enumerate")
      · wp_walk using wpAny_loadPart' hl, wpAny_pyIter_tuple isT
        exact ⟨_, rfl, h⟩
      · wp_walk using wpAny_loadPart' hl, wpAny_pyIter_tuple isT
        exact ⟨_, rfl, h⟩
    · wp_walk using wpAny_loadPart' hl, wpAny_pyIter_tuple isT
      exact ⟨_, rfl, h⟩
theorem call_enumT {prog : Program} {w : World} {A : Around} {E : Value → Shared → Prop} {s : Shared} {l : Addr} {items : Array Value} {Q : Value → Shared → Prop} (hL : s.heap.IsTuple l items)
    (h : ∀ h', IsEnum h' (s.heap.objs.size + 1) s.heap.objs.size 0 .none → h'.IsTupleIter s.heap.objs.size l 0 → (∀ b o, s.heap.get? b = some o → h'.get? b = some o) → Q (.ref (s.heap.objs.size + 1)) { s with heap := h' }) :
    wpAny (model prog w) A (call (.type "enumerate") [.ref l]) Q E s := by
  obtain ⟨⟨c, dct, dt, sl⟩, hl, hc, n, hd⟩ := hL
  simp only at hc hd
  subst hc hd
  refine callType_new F.called_enumerate (by decide) (F.typeCall_enumerate_1 _) (F.newCall_enumerate_1 _) (fun obj => F.args_object_init_2 obj _) F.entry_enumerate_new (meets_enumT l items n dct sl) ⟨hl, ?_⟩
  have size1 : (s.heap.push { cls := .type "tuple_iterator", data := .fields #[.ref l, .int 0 0] }).objs.size = s.heap.objs.size + 1 := Heap.size_push ..
  show _ ∧ _
  rw [size1]
  have he : IsEnum ((s.heap.push { cls := .type "tuple_iterator", data := .fields #[.ref l, .int 0 0] }).push { cls := .type "enumerate", data := .fields #[.none, .bool false, .ref s.heap.objs.size, rawInt 0, .none, .none] }) (s.heap.objs.size + 1) s.heap.objs.size 0 .none := by
    have z := Heap.get?_push_size (s.heap.push { cls := .type "tuple_iterator", data := .fields #[.ref l, .int 0 0] }) (o := { cls := .type "enumerate", data := .fields #[.none, .bool false, .ref s.heap.objs.size, rawInt 0, .none, .none] }) rfl
    rw [size1] at z; exact z
  exact ⟨⟨_, he, rfl⟩, h _ he ⟨_, Heap.get?_push_of_some _ (Heap.get?_push_size _ rfl), rfl, rfl⟩ fun b o x => Heap.get?_push_of_some _ (Heap.get?_push_of_some _ x)⟩
/-- each item of the tuple at a in a new pair -/
def IteT (K : PySem.W.Frag) (a : Addr) : It :=
  ⟨fun i H => ∃ (xs : List V) (x : V), SqT K H a xs ∧ xs[i]? = some x, fun i H v H' => ∃ T x, v = .ref T ∧ H T = none ∧ H' = upd H T (.tup [.int (i : Nat), x]) ∧ ∀ xs, SqT K H a xs → xs[i]? = some x, fun i H => ∃ xs : List V, SqT K H a xs ∧ xs.length ≤ i⟩
theorem turn_enumT {P : Program} {w : World} {K : PySem.W.Frag} {elts : List Expr} {kk : Nat} {tpos : Pos} (a e it : Addr) (ne1 : e ≠ it) (ne2 : e ≠ a) (ne3 : a ≠ it) :
    Turn P w K (.Tuple elts kk tpos) (IteT K a) [e, it] e (fun i h => (∃ old, IsEnum h e it ((i : Nat) : Int) old) ∧ h.IsTupleIter it a i) where
  mem := by simp
  obj := fun i h st b hb => by
    obtain ⟨⟨old, he⟩, o, ho, hc, hd⟩ := st
    have e' : b = e ∨ b = it := by simpa using hb
    rcases e' with z | z
    · rw [z]; exact ⟨_, he, fun v q => nomatch q⟩
    · rw [z]; exact ⟨o, ho, fun v q => by rw [hd] at q; cases q⟩
  keep := fun i h h' st k => let ⟨⟨old, he⟩, hi⟩ := st; ⟨⟨old, k e (by simp) _ he⟩, hi.at fun o q => k it (by simp) o q⟩
  item := by
    intro X hP hw hK hc i pins s σ H E I hf st hg
    subst hP hw hK
    obtain ⟨⟨old, he⟩, hit⟩ := st
    obtain ⟨xs, x, hq, hx⟩ := hg
    obtain ⟨its, rv, p, hz⟩ := I.tuple hq
    obtain ⟨u, hu, ru⟩ := rv.get hx
    have hel : e < s.heap.objs.size := Heap.lt_size he
    have hil : it < s.heap.objs.size := by obtain ⟨_, q, _⟩ := hit; exact Heap.lt_size q
    have hlt : i < its.toArray.size := by
      have := (List.getElem?_eq_some_iff.mp hu).1
      simpa using this
    have Dr := Draws.tuple (prog := X.prog) (w := X.w) (A := X.A.in1) (I.ok.hd hc) it a ne3 its.toArray
    refine wpAny_pyNext_enum_itemD Dr he ⟨hit, p⟩ hlt ne1 (by simp [ne1, ne2]) fun y h' tk hy ho hst' hT hsz hk => ?_
    have ey : y = u := by
      have z : its.toArray[i]? = some u := by simpa using hu
      rw [z] at hy
      exact (Option.some.inj hy).symm
    subst ey
    refine ⟨_, rfl, wpAny_letOwnedTupleGo_enum (s := { s with heap := h', toks := tk + 1 }) ho fun h'' he' sb => ?_⟩
    have hT2 : h''.get? s.heap.objs.size = some { cls := .type "tuple", data := .seq #[.int i tk, y] } := (sb.2 _ (Nat.ne_of_gt hel)).trans hT
    have new : ObjOk X.prog X.w (upd H s.heap.objs.size (.tup [.int (i : Nat), x])) h'' s.heap.objs.size (.tup [.int (i : Nat), x]) :=
      ⟨by show 2 ≤ sizeLine; decide, [.int i tk, y], .cons ⟨_, rfl⟩ (.cons ru .nil), ⟨_, hT2, rfl, _, rfl⟩⟩
    have I1 : Inv X pins σ (upd H s.heap.objs.size (.tup [.int (i : Nat), x])) { s with heap := h'', toks := tk + 1 } :=
      I.turnedNew (ch := [e, it]) (fun b ob hb q => (sb.2 b (fun z => hb (by simp [z]))).trans (hk b ob (fun z => hb (by simp [z])) (fun z => hb (by simp [z])) q)) hf (Nat.le_refl _) new
    refine ⟨.ref s.heap.objs.size, _, I1, rfl, ⟨_, x, rfl, I.hok.fresh (Nat.le_refl _), rfl, fun ys hy2 => by rw [I.tuple_inj hy2 hq]; exact hx⟩, ⟨⟨y, ?_⟩, hst'.1.at fun o q => (sb.2 it (Ne.symm ne1)).trans q⟩, fun b hb => ?_⟩
    · have e1 : ((i + 1 : Nat) : Int) = (i : Int) + 1 := by omega
      rw [e1]; exact he'
    · have hb' : b < s.heap.objs.size := by
        have e' : b = e ∨ b = it := by simpa using hb
        rcases e' with z | z
        · rw [z]; exact hel
        · rw [z]; exact hil
      rw [upd_ne (Nat.ne_of_lt hb')]
      exact (hf b hb).1
  done := by
    intro X hP hw hK hc i pins s σ H E I hf st hg
    subst hP hw hK
    obtain ⟨⟨old, he⟩, hit⟩ := st
    obtain ⟨xs, hq, hx⟩ := hg
    obtain ⟨its, rv, p, hz⟩ := I.tuple hq
    obtain ⟨f0, f1, f2, f3, f4, f5⟩ := hf it (by simp)
    have hl := rv.length
    show wpAny (model X.prog X.w) X.A (pyNext (.ref e)) _ E s
    have hT : s.TypeIs (.ref e) "enumerate" := ⟨_, he, rfl⟩
    unfold pyNext
    refine wpAny_bind (wpAny_attempt (wpAny_callSpecial?_slot (name := Str.ofString "__next__") hT F.slot_enumerate_next (wpAny_call_entry F.slot_enumerate_next hT F.entry_enumerate_next ?_ (F.args_enumerate_next_1 _))))
    show wpAny _ _ (field (.ref e) 2 >>= _) _ _ _
    refine wpAny_bind (wpAny_field he rfl (x := .ref it) rfl ?_)
    refine wpAny_bind (wpAny_nextOf_tuple_end (I.ok.hd hc) hit p (by simp; omega) fun h' x he' hx' => ?_)
    obtain ⟨o, ho, hcl⟩ := hx'
    refine wpAny_bind (wpAny_isInstance (T := "StopIteration") (b := true) ⟨o, ho, hcl⟩ isSubtype_stop ?_)
    exact wpAny_pure ⟨rfl, I.turned (t' := s.toks) (fun b ob hb q => he' b ob hb q) f0 f1 f3 f4 f5⟩
  self := fun A i s Q E st h => let ⟨⟨_, he⟩, _⟩ := st; wpAny_pyIter_enum he h
section
variable {X : Cx} {δ : List Cell} {tg e : Expr} {ds : List Dat} {p pos tpos : Pos} {elts : List Expr} {kk : Nat}
def iEnumT (K : PySem.W.Frag) (ta : TA) : TI := fun σ H R => ta σ H fun vs H1 => ∃ a xs, vs = [.ref a] ∧ SqT K H1 a xs ∧ R (IteT K a) H1
theorem pi_enumT {ta : TA} (hg : Gl X "enumerate") (hm : X.mg "enumerate" = none) (ha : PA X [e] ta) (hs : starEach [e] X.env = [(false, eval e X.env)] := by rfl) : PI X (.Tuple elts kk tpos) (.Call (.Name "enumerate" p) [e] [] pos) (iEnumT X.K ta) := by
  refine ⟨fun pins s σ H R I h => Call_ (ld_blt I hg hm boot_enumerate (PyProof.Rows.callWith_type1 (thn (ha.run pos pins s σ H _ I h) fun us s1 ⟨vs, H1, I1, r1, q1⟩ => ?_) hs rfl))⟩
  obtain ⟨a, xs, rfl, hq, q⟩ := q1
  cases r1 with
  | cons r rr =>
    cases rr
    cases r
    obtain ⟨its, rv, p', hz⟩ := I1.tuple hq
    have small : a < s1.heap.objs.size := by obtain ⟨o, ho, _⟩ := id p'; exact Heap.lt_size ho
    refine call_enumT p' fun h' he hit hk => wpAny_pyIter_enum he ?_
    have I2 : Inv X pins σ H1 { s1 with heap := h' } := I1.kept (t' := s1.toks) hk
    refine ⟨s1.heap.objs.size + 1, [s1.heap.objs.size + 1, s1.heap.objs.size], _, _, H1, rfl, I2, turn_enumT a (s1.heap.objs.size + 1) s1.heap.objs.size (Nat.succ_ne_self _) (Nat.ne_of_gt (Nat.lt_succ_of_lt small)) (Nat.ne_of_lt small), ⟨⟨.none, he⟩, hit⟩, fun b hb => ?_, q⟩
    have e' : b = s1.heap.objs.size + 1 ∨ b = s1.heap.objs.size := by simpa using hb
    have hle : s1.heap.objs.size ≤ b := by
      rcases e' with z | z
      · rw [z]; exact Nat.le_add_right _ _
      · rw [z]; exact Nat.le_refl _
    exact I1.fpOk hle (I1.hok.fresh hle)
theorem walkD_enumT {K : PySem.W.Frag} {G0 : Hp} {a : Addr} {xs : List V} (h : G0 a = some (.tup xs)) (r : RpA K G0 xs ds) : WalkD K (IteT K a) G0 (fun _ => True) (enumD ds) where
  goes := fun i G H hi l w _ => by
    rw [enumD_length] at hi
    have h1 : i < xs.length := by rw [r.length]; exact hi
    exact ⟨xs, xs[i], SqT.of (w.tupH (l _ _ h)), List.getElem?_eq_getElem h1⟩
  stops := fun G H l w _ => by
    rw [enumD_length, ← r.length]
    exact ⟨xs, SqT.of (w.tupH (l _ _ h)), Nat.le_refl _⟩
  yields := fun i G H x H' hi l w _ y => by
    rw [enumD_length] at hi
    obtain ⟨T, v, rfl, nT, rfl, e1⟩ := y
    obtain ⟨d, k1, r1⟩ := r.get (e1 xs (SqT.of (w.tupH (l _ _ h))))
    have ex := Ext.new (o := .tup [.int (i : Nat), v]) w nT
    exact ⟨_, _, enumD_get k1, .tup upd_same (.cons (.int _) (.cons ((r1.mono l).mono ex.gg) .nil)), w.new nT, ex⟩
  keeps := fun _ _ _ _ _ _ _ _ _ _ => trivial
theorem EvItP.enumT (h : EvP X δ e (.tuple ds)) (hm : X.mg "enumerate" = none) (hg : Gl X "enumerate" := by rfl) (hs : starEach [e] X.env = [(false, eval e X.env)] := by rfl) :
    EvItP X δ (.Tuple elts kk tpos) (.Call (.Name "enumerate" p) [e] [] pos) (enumD ds) := fun σ G H m R q => by
  refine PI.w (pi_enumT hg hm (pa_cons peW pa_nil (by rw [hs]; rfl)) hs) (oneP m h fun x G2 H2 m2 r f => ?_)
  cases r with
  | tup ga ra => exact ⟨_, _, rfl, SqT.of (m2.wd.tupH ga), q _ _ G2 H2 m2 f (walkD_enumT ga ra) trivial⟩
end
/-! ### sorted deeds: a permutation -/
/-- pairs whose first is a text; where the first are the same the second can be compared -/
def DeedLike (ds : List PyData) : Prop := ∀ d ∈ ds, ∃ a z, d = .tuple [.str a, z] ∧ (∀ t, z = .tuple t → True) ∧ ∀ d' ∈ ds, ∀ z', d' = .tuple [.str a, z'] → alike z z' = true
theorem strNeT (n : Str) (xs : List PyData) : PyData.str n ≠ .tuple xs := fun z => nomatch z
theorem strNeN (n : Str) : PyData.str n ≠ .none := fun z => nomatch z
section
variable {prog : Program} {w : World} {A : Around} {E : Value → Shared → Prop} {s : Shared}
theorem readKey {h : Heap} {ds : List PyData} {v : Value} {d : PyData} {as : List Addr} (hd : d ∈ ds) (r : Reads h v d as) : ∃ a, (dataKind h ds).keyOf v = some a := by
  have q : ∃ d, d ∈ ds ∧ ∃ as, Reads h v d as := ⟨d, hd, as, r⟩
  refine ⟨keyToks q.choose, ?_⟩
  show (open Classical in if q : ∃ d, d ∈ ds ∧ ∃ as, Reads h v d as then some (keyToks q.choose) else none) = _
  exact dif_pos q
theorem sortsDeeds {vs : List Value} {ds : List PyData} (e : EachIs (fun v d => ∃ as, Reads s.heap v d as) vs ds) (hdl : DeedLike ds) (hu : ∀ d, d ∈ ds → A.units + d.depth < cLine) : SortsAt prog w A s (dataKind s.heap ds) vs := by
  refine ⟨fun v hv => ?_, tuples' true, ?_, fun h2 E Q hq => ?_⟩
  · obtain ⟨d, hd, as, r⟩ := e.left v hv
    exact readKey hd r
  · intro E x y a b Q ha hb hq
    obtain ⟨d, as, hd, ra, rfl⟩ := PySem.W.dataKind_inv ha
    obtain ⟨d', as', hd', rb, rfl⟩ := PySem.W.dataKind_inv hb
    obtain ⟨n1, z1, rfl, _, al⟩ := hdl d hd
    obtain ⟨n2, z2, rfl, _, _⟩ := hdl d' hd'
    have hq' : Q (dataLt (.tuple [.str n1, z1]) (.tuple [.str n2, z2])) s := hq
    rw [PySem.W.dataLt_tuple] at hq'
    have room : A.units + min (PyData.tuple [.str n1, z1]).depth (PyData.tuple [.str n2, z2]).depth < cLine := Nat.lt_of_le_of_lt (Nat.add_le_add_left (Nat.min_le_left _ _) _) (hu _ hd)
    obtain ⟨l, o, xs, n, rfl, h1, h2, h3, h4⟩ := rdTup ra
    obtain ⟨l', o', xs', n', rfl, k1, k2, k3, k4⟩ := rdTup rb
    have e1 : xs.size = 2 := by simpa using SeqAt.ReadsAll.length _ _ _ h4
    have e2 : xs'.size = 2 := by simpa using SeqAt.ReadsAll.length _ _ _ k4
    by_cases hn : n1 = n2
    · subst hn
      have hal : alikeAll [.str n1, z1] [.str n1, z2] = true := by
        have q := al _ hd' z2 rfl
        show (alike (.str n1) (.str n1) && alikeAll [z1] [z2]) = true
        rw [show alike (.str n1) (.str n1) = true from rfl, Bool.true_and]
        show (alike z1 z2 && alikeAll [] []) = true
        rw [q]; rfl
      refine PySem.W.kat_lt h1 h3 k1 k3 (PySem.W.katLex_alike [.str n1, z1] [.str n1, z2] 0 _ _ _ _ h4 k4 hal (by have q := SeqAt.room_in room; omega) (fun _ _ x r t ex => ?_) (by rw [e1, e2]; rfl) hq')
      obtain ⟨rfl, _⟩ := List.cons.inj ex
      exact strNeT _ _
    · have hne : PyData.eqv (.str n1) (.str n2) = false := by
        show (n1 == n2) = false
        exact beq_eq_false_iff_ne.mpr hn
      rw [PySem.W.dataLt_all_no rfl hne] at hq'
      refine PySem.W.kat_lt h1 h3 k1 k3 ?_
      generalize xs.toList = L1 at h4
      generalize xs'.toList = L2' at k4
      cases h4 with
      | cons r rs =>
        cases k4 with
        | cons r' rs' =>
          rw [List.zip_cons_cons]
          have room0 : A.units + min (PyData.str n1).depth (PyData.str n2).depth < cLine := by
            have := SeqAt.room_here room
            show A.units + min 0 0 < cLine
            simpa using this
          refine PySem.W.kat_cons (PySem.W.eqAt_alike (.str n1) (.str n2) A s _ _ _ _ r r' rfl room0 prog w _ _ ?_)
          rw [hne]
          exact PySem.W.kat_no (PySem.W.oneLt_alike (fun _ xs => strNeT n1 xs) r r' rfl (strNeN n1) room0 hq')
  · obtain ⟨fs, t1, t2, t3⟩ := PySem.W.each_katTups e fun d hd => by
      obtain ⟨a, z, rfl, _⟩ := hdl d hd
      exact ⟨_, _, rfl⟩
    refine PySem.W.kat_kind (T := .type "str") t1 (by omega) (fun f hf => ?_) (beq_self_eq_true _) ?_
    · obtain ⟨x, r, as, m1, m2⟩ := t3 f hf
      obtain ⟨a, z, ez, _⟩ := hdl _ m1
      have ex : x = .str a := by
        injection ez with ez
        exact (List.cons.inj ez).1
      subst ex
      exact PySem.W.looks_reads m2
    · have : (Value.type "str" != Value.type "tuple") = true := by first | decide +kernel | rfl
      rw [this]
      exact hq
end
section
variable {X : Cx} {ds : List Dat}
/-- sorted(l), l of deeds: the same deeds in some order -/
theorem EvI.sortedDeeds {δ : List Cell} {a : Expr} {p pos : Pos} {Ψ : Dat → List Cell → Prop} (g : Gx X) (ha : EvP X δ a (.list ds)) (hdl : DeedLike (ds.map Dat.py)) (hd : ∀ d ∈ ds, d.py.depth ≤ 50) (hl : ds.length ≤ 1000) (hk : ∀ es : List Dat, es.Perm ds → Ψ (.list es) δ) (hm : X.mg "sorted" = none) (hg : Gl X "sorted" := by rfl)
    (he : starEach [a] X.env = (false, eval a X.env) :: starEach [] X.env := by rfl) : EvI X δ (.Call (.Name "sorted" p) [a] [] pos) Ψ := fun σ G H m Q q => by
  refine PE.w (pe_callB (id := "sorted") callW hg hm (by decide +kernel) (pa_cons peW pa_nil he) (by decide) (by decide) he rfl) (oneP m ha fun v G1 H1 m1 r1 f1 => ?_)
  intro pins s σ' us I rv
  cases r1 with
  | @lst b xs _ gb rb =>
    obtain ⟨u, rfl, ru⟩ := vals1 rv
    cases ru
    obtain ⟨its, rt, pl, hz⟩ := I.list (SqL.of (m1.wd.lstH gb))
    have e := eachVD rt rb
    have hL : ds.length ≤ sizeLine := Nat.le_of_lt (small1000 hl)
    have er := eachRd g I m1.wd e
    have lz : its.length ≤ sizeLine := by rw [← rt.length]; exact hz
    have er' : EachIs (fun v d => ∃ as, Reads (PySem.W.sortingHeap (PySem.W.copyHeap s.heap its) (s.heap.objs.size + 1) its) v (Dat.py d) as) its ds := eachMono (fun _ _ ⟨as, r⟩ => ⟨as, PyProof.Rows.Reads.keeps (fun _ _ => PySem.W.sorting_copy_old) r⟩) er
    refine PySem.W.sorted_vals (κ := dataKind (PySem.W.sortingHeap (PySem.W.copyHeap s.heap its) (s.heap.objs.size + 1) its) (ds.map Dat.py)) pl.isList (sortsDeeds (s := { s with heap := PySem.W.sortingHeap (PySem.W.copyHeap s.heap its) (s.heap.objs.size + 1) its }) (PySem.W.each_map (R := fun v d => ∃ as, Reads (PySem.W.sortingHeap (PySem.W.copyHeap s.heap its) (s.heap.objs.size + 1) its) v d as) Dat.py er') hdl (fun d hm => ?_)) lz ?_
    · obtain ⟨d0, hm0, rfl⟩ := List.mem_map.mp hm
      have := g.hu
      have := hd d0 hm0
      show X.A.units + 1 + 1 + _ < _
      omega
    · -- the values in their new order, and what they stand for
      have perm : (sortVals (dataKind (PySem.W.sortingHeap (PySem.W.copyHeap s.heap its) (s.heap.objs.size + 1) its) (ds.map Dat.py)) false its its).Perm its := by
        unfold sortVals
        have z := (List.mergeSort_perm (its.zip its) (PySem.W.sortLe (dataKind (PySem.W.sortingHeap (PySem.W.copyHeap s.heap its) (s.heap.objs.size + 1) its) (ds.map Dat.py)).toKeyOrd false fun p : Keyed => PySem.W.keyD (dataKind (PySem.W.sortingHeap (PySem.W.copyHeap s.heap its) (s.heap.objs.size + 1) its) (ds.map Dat.py)) p.1)).map Prod.snd
        rwa [List.map_snd_zip (Nat.le_refl _)] at z
      have along : ∀ {vs vs' : List Value}, vs'.Perm vs → ∀ {ds : List Dat}, EachIs (VD X.K G1) vs ds → ∃ es : List Dat, es.Perm ds ∧ EachIs (VD X.K G1) vs' es := by
        intro vs vs' pm
        induction pm with
        | nil => intro ds e; cases e; exact ⟨[], .nil, .nil⟩
        | cons x _ ih =>
          intro ds e
          cases e with
          | cons r t =>
            obtain ⟨es, h1, h2⟩ := ih t
            exact ⟨_ :: es, h1.cons _, .cons r h2⟩
        | swap x y l =>
          intro ds e
          cases e with
          | cons r t =>
            cases t with
            | cons r' t => exact ⟨_, .swap _ _ _, .cons r' (.cons r t)⟩
        | trans _ _ ih1 ih2 =>
          intro ds e
          obtain ⟨es, h1, h2⟩ := ih2 e
          obtain ⟨es', h3, h4⟩ := ih1 h2
          exact ⟨es', h3.trans h1, h4⟩
      obtain ⟨es, pe, eo⟩ := along perm e
      exact sortedOut I m1.wd eo (by rw [pe.length_eq]; exact hL) fun z G' H' rz w ex => q (.list es) δ z G' H' (hk es pe) (m1.ext ex w) rz (Ext.up (f1.trans ex) _)
end
end K94
end

/-! text KV -/
section
set_option Elab.async false
set_option linter.all false
set_option maxRecDepth 100000
set_option maxHeartbeats 4000000
set_option autoImplicit true
/-! sorted(set(l)) of ints -/
namespace K94
open PySem PySem.Spec PyProof.Rows L2

section
variable {P : Program} {w : World} {A : Around} {E : Value → Shared → Prop} {s : Shared}
/-- set(l) of a list of ints -/
theorem set_ints {l : Addr} {items : Array Value} (ns : List Int) {Q : Value → Shared → Prop} (hh : A.handled = none) (hl : s.heap.IsList l items) (hit : ∀ (i : Nat) (v : Value), items[i]? = some v → ∃ k t, ns[i]? = some k ∧ v = .int k t) (hsz : items.size = ns.length) (hb : ns.length + 1 < scanBound)
    (h : ∀ (h' : Heap) (tk c : Nat), SetR w h' s.heap.objs.size (fun j => decide (j ∈ ns)) c → c ≤ ns.length → (∀ b o, s.heap.get? b = some o → h'.get? b = some o) → Q (.ref s.heap.objs.size) { s with heap := h', toks := tk }) : wpAny (model P w) A (call (.type "set") [.ref l]) Q E s := by
  obtain ⟨cc, tl, mroS⟩ := F.called_set.mro
  have madeS := F.called_set.made
  have subS := F.called_set.sub
  refine wpAny_call (codeAny_of_tree ?_)
  show wpAny _ _ (callAny (.type "set") _) _ _ _
  refine wpAny_pure ⟨Code.quiet_builtin _ (by decide +kernel), codeAny_builtin F.entry_type_call ?_⟩
  rw [Around.under_plain (weight_type_call_type "set" [.ref l] []) rfl]
  have notT := F.called_set.notType
  have canC := F.called_set.canCreate
  have okC := F.typeCall_set_1 (.ref l)
  repeat (any_goals (first | assumption | wp_step))

  refine codeAny_mono (L2.code_set_led1 (.ref l) (E := E) (Q₁ := fun obj s1 => obj = .ref s.heap.objs.size ∧ s1 = { s with heap := s.heap.push ({ cls := .type "set", dict := none, data := .set #[] 0 (.fresh 0 0 (!w.params.followText "set-order")) } : Obj) }) ⟨rfl, rfl⟩) fun r s1 hr => ?_
  cases r with
  | error e => exact hr
  | ok fl =>
    cases fl with
    | ret obj =>
      obtain ⟨rfl, rfl⟩ := hr
      have atS : (s.heap.push ({ cls := .type "set", dict := none, data := .set #[] 0 (.fresh 0 0 (!w.params.followText "set-order")) } : Obj)).get? s.heap.objs.size = some ({ cls := .type "set", dict := none, data := .set #[] 0 (.fresh 0 0 (!w.params.followText "set-order")) } : Obj) := Heap.get?_push_size _ rfl
      have tyS : Shared.TypeIs { s with heap := s.heap.push ({ cls := .type "set", dict := none, data := .set #[] 0 (.fresh 0 0 (!w.params.followText "set-order")) } : Obj) } (.ref s.heap.objs.size) "set" := ⟨_, atS, rfl⟩
      have look := F.called_set.init.lookup
      have bind_ := F.called_set.init.bind (.ref s.heap.objs.size)
      repeat (any_goals (first | assumption | wp_step))

      refine codeAny_mono (codeAny_call_builtin (R := wants (fun r s2 => r = .none ∧ ∃ h' tk c, s2 = { s with heap := h', toks := tk } ∧ SetR w h' s.heap.objs.size (fun j => decide (j ∈ ns)) c ∧ c ≤ ns.length ∧ (∀ b o, s.heap.get? b = some o → h'.get? b = some o)) E) F.called_set.init.plain F.entry_set_init (check_set_init_1 tyS ?_)) fun r2 s2 hr2 => ?_
      · obtain ⟨⟨oc, odct, odat, osl⟩, hol, hcl, nl, hdl⟩ := hl
        simp only at hcl hdl
        subst hcl; subst hdl
        have hol' : (s.heap.push ({ cls := .type "set", dict := none, data := .set #[] 0 (.fresh 0 0 (!w.params.followText "set-order")) } : Obj)).get? l = some { cls := .type "list", dict := odct, data := .seq items nl, slots := osl } := Heap.get?_push_of_some _ hol
        have no1 := F.sub_list_set
        have no2 := F.sub_list_frozenset
        have no3 : (Value.type "list" == Value.type "dict") = false := by decide
        have isL : (s.heap.push ({ cls := .type "set", dict := none, data := .set #[] 0 (.fresh 0 0 (!w.params.followText "set-order")) } : Obj)).IsList l items := ⟨_, hol', rfl, nl, rfl⟩
        unfold Builtin.«set.__init__» noKeywords Builtin.Frozenset.updateFrom
        generalize hPI : pyIter = PI
        wp_walk
        subst hPI

        refine wpAny_pyIter_list isL ?_
        refine wpAny_bind (wpAny_runValue ?_)
        have lS : l < s.heap.objs.size := Heap.lt_size hol
        have h3 : A.in1.in1.in1.handled = none := by simp [hh]
        have size1 : (s.heap.push ({ cls := .type "set", dict := none, data := .set #[] 0 (.fresh 0 0 (!w.params.followText "set-order")) } : Obj)).objs.size = s.heap.objs.size + 1 := Heap.size_push ..
        have ne1 : l ≠ (s.heap.push ({ cls := .type "set", dict := none, data := .set #[] 0 (.fresh 0 0 (!w.params.followText "set-order")) } : Obj)).objs.size := by rw [size1]; exact Nat.ne_of_lt (Nat.lt_succ_of_lt lS)
        have offS : s.heap.objs.size ∉ [(s.heap.push ({ cls := .type "set", dict := none, data := .set #[] 0 (.fresh 0 0 (!w.params.followText "set-order")) } : Obj)).objs.size, l] := by
          rw [size1]
          simp only [List.mem_cons, List.not_mem_nil, or_false, not_or]
          exact ⟨Nat.ne_of_lt (Nat.lt_succ_self _), Nat.ne_of_gt lS⟩
        have at2 : ((s.heap.push ({ cls := .type "set", dict := none, data := .set #[] 0 (.fresh 0 0 (!w.params.followText "set-order")) } : Obj)).push { cls := .type "list_iterator", data := .fields #[.ref l, .int 0 0] }).get? s.heap.objs.size = some ({ cls := .type "set", dict := none, data := .set #[] 0 (.fresh 0 0 (!w.params.followText "set-order")) } : Obj) := Heap.get?_push_of_some _ atS
        refine L2.set_update_ints ((Walks.list h3 _ l ne1 items).toS) s.heap.objs.size offS ns hsz hb hit (items.size - 0) 0 _ rfl (Nat.zero_le _) ⟨⟨_, Heap.get?_push_size _ rfl, rfl, rfl⟩, (isL.push _)⟩ ⟨0, Nat.le_refl 0, L2.setR_new_at at2⟩ fun s3 c3 hm hc3 hS3 => ?_
        obtain ⟨hp3, g3, d3, tk3, os3⟩ := s3
        have eg : g3 = s.gens := hm.gens
        have ed : d3 = s.drawn := hm.drawn
        have eo : os3 = s.os := hm.os
        subst eg; subst ed; subst eo
        show wpAny _ _ _ _ _ _
        refine wpAny_pure ?_
        show wpAny _ _ (ret Value.none) _ _ _
        rw [hsz] at hc3
        refine wpAny_pure ⟨rfl, hp3, tk3, c3, rfl, hS3, hc3, fun b o e => ?_⟩
        have b0 : b < s.heap.objs.size := Heap.lt_size e
        refine hm.heap b o ?_ (Heap.get?_push_of_some _ (Heap.get?_push_of_some _ e))
        rw [size1]
        simp only [List.mem_cons, List.not_mem_nil, or_false, not_or]
        exact ⟨Nat.ne_of_lt b0, Nat.ne_of_lt (Nat.lt_succ_of_lt b0)⟩

      · cases r2 with
        | error e => exact hr2
        | ok fl2 =>
          cases fl2 with
          | ret r =>
            obtain ⟨rfl, h', tk, c, rfl, hD, hT, hk⟩ := hr2
            repeat (any_goals (first | assumption | wp_step))
            exact h _ _ _ hD hT hk
          | _ => exact hr2.elim
    | _ => exact hr.elim
end
section
variable {X : Cx} {δ : List Cell} {a : Expr} {p p2 q pos : Pos} {Ψ : Dat → List Cell → Prop}
/-- sorted(set(l)): the ints of l, each once, in their order -/
theorem EvI.sortedSet {ns : List Int} (g : Gx X) (ha : EvP X δ a (.list (ns.map Dat.int))) (hl : ns.length ≤ 60) (hk : ∀ ms : List Int, ms.Pairwise (· < ·) → (∀ k, k ∈ ms ↔ k ∈ ns) → Ψ (.list (ms.map Dat.int)) δ) (hm : X.mg "sorted" = none) (hm2 : X.mg "set" = none) (hg : Gl X "sorted" := by rfl) (hg2 : Gl X "set" := by rfl) (na : starEach [a] X.env = (false, eval a X.env) :: starEach [] X.env := by rfl) :
    EvI X δ (.Call (.Name "sorted" p) [.Call (.Name "set" p2) [a] [] q] [] pos) Ψ := fun σ G H m Q qq pins s I => by
  refine Call_ (ld_blt I hg hm boot_sorted ?_)
  refine PyProof.Rows.callWith_builtin1 (PyProof.Rows.args_cons ?_ rfl) rfl rfl
  refine Call_ (ld_blt I hg2 hm2 boot_set ?_)
  refine PyProof.Rows.callWith_type1 (PyProof.Rows.args_cons (thn (oneP m ha (Q := fun v H1 => ∃ G1, Rp X.K G1 v (.list (ns.map Dat.int)) ∧ Mt X.K G1 H1 σ δ ∧ Ext G H G1 H1) (fun v G1 H1 m1 r1 f1 => ⟨G1, r1, m1, f1⟩) pins s I) fun u s1 ⟨x, H1, I1, r1, G1, rx, m1, ex⟩ => PyProof.Rows.args_nil ?_) na) na rfl
  cases rx with
  | @lst l xs _ gl rl =>
    have e := rl.ints
    subst e
    cases r1
    obtain ⟨its, rv, pl, hz⟩ := I1.list (SqL.of (m1.wd.lstH gl))
    have hlen : its.length = ns.length := by rw [← rv.length, List.length_map]
    refine set_ints ns (I1.ok.hd g.calm) pl.isList (fun i v hv => ?_) (by rw [List.size_toArray, hlen]) (by unfold scanBound; omega) fun h' tk c hR hc hk2 => ?_
    · have hi : i < its.length := by
        have := (Array.getElem?_eq_some_iff.mp hv).1
        simpa using this
      have hv2 : its[i]? = some v := by simpa using hv
      have hk2 : (ns.map V.int)[i]? = some (V.int (ns[i]'(by omega))) := by simp [show i < ns.length by omega]
      obtain ⟨u, hu, ru⟩ := rv.get hk2
      rw [hv2] at hu
      cases hu
      obtain ⟨t, rfl⟩ := ru
      exact ⟨_, t, List.getElem?_eq_getElem (by omega), rfl⟩
    · refine PyProof.Rows.args_nil ?_
      have np : H1 s1.heap.objs.size = none := I1.hok.fresh (Nat.le_refl _)
      have I2 : Inv X pins σ (upd H1 s1.heap.objs.size (SetO X.w s1.heap.objs.size (fun j => decide (j ∈ ns)) c)) { s1 with heap := h', toks := tk } := I1.laid (t' := tk) hk2 (Nat.le_refl _) (setO_new hR)
      have w2 := m1.wd.own (o := SetO X.w s1.heap.objs.size (fun j => decide (j ∈ ns)) c) (m1.wd.none np) (fun xs z => nomatch z)
      have f2 : Ext G1 H1 G1 (upd H1 s1.heap.objs.size (SetO X.w s1.heap.objs.size (fun j => decide (j ∈ ns)) c)) := ⟨Le.refl _, fun b v e _ => by rw [upd_ne (ne_of_none e np)]; exact e, fun b h => absurd h List.not_mem_nil, fun b v e gg _ => gg⟩
      refine cr_sortedSet g.calm pins _ σ _ [.ref s1.heap.objs.size] [.ref s1.heap.objs.size] Q I2 (.cons rfl .nil) ⟨_, _, c, rfl, upd_same, by omega, fun ms p hp hmem hlen nq => ?_⟩
      have ex3 := Ext.new (o := .lst (ms.map V.int)) w2 nq
      refine qq (.list (ms.map Dat.int)) δ (.ref p) _ _ (hk ms hp fun k => by rw [hmem k]; exact decide_eq_true_iff) ?_ (.lst upd_same (RpA.ofInts ms)) (Ext.up (ex.trans (f2.trans ex3)) _)
      exact (m1.ext f2 w2).ext ex3 (w2.new nq)
end
end K94
end

/-! text KW -/
section
set_option Elab.async false
set_option linter.all false
set_option maxRecDepth 100000
set_option maxHeartbeats 4000000
set_option autoImplicit true
/-! a class with slots: read, changed, made, its methods called -/
namespace K94
open PySem PySem.Spec PyProof.Rows L2

/-- where the class stands -/
structure StC (K : PySem.W.Frag) (C : Addr) : Prop where
  cls : SlX.SCls K C
  s0 : ∃ p, SlX.Slot1 K C "its_house" p 0
  s1 : ∃ p, SlX.Slot1 K C "its_rows" p 2
  s2 : ∃ p, SlX.Slot1 K C "its_things" p 3
  s3 : ∃ p, SlX.Slot1 K C "its_names" p 1
section
variable {K : PySem.W.Frag} {G H G' H' : Hp} {σ : SS} {δ : List Cell} {i : Nat} {a C dx ra ta na : Addr} {hd : Dat} {rows things : List Dat} {names : List (Dat × Dat)}
theorem Mt.stOk (m : Mt K G H σ δ) (h : δ[i]? = some (.ow a (.st C dx ra ta na hd rows things names))) : σ[i]? = some (some (.ref a)) ∧ OwAt K G H a (.st C dx ra ta na hd rows things names) := by
  obtain ⟨v, e, rfl, ok⟩ := m.get h
  exact ⟨e, ok⟩
theorem Mt.stRows (m : Mt K G H σ δ) (h : δ[i]? = some (.ow a (.st C dx ra ta na hd rows things names))) {xs : List V} {rows' : List Dat} (r : RpA K G xs rows') :
    Mt K G (upd H ra (.lst xs)) σ (δ.set i (.ow a (.st C dx ra ta na hd rows' things names))) ∧ Fr (feet δ) G H (feet (δ.set i (.ow a (.st C dx ra ta na hd rows' things names)))) G (upd H ra (.lst xs)) := by
  obtain ⟨e, ⟨hv, rh, sl⟩, hn, nd, ⟨xr, er, rr⟩, ⟨xt, et, rt⟩, kn, en, rn⟩ := m.stOk h
  have nd' := nd
  simp only [List.nodup_cons, List.mem_cons, List.not_mem_nil, or_false, not_or, not_false_eq_true, List.nodup_nil, and_true] at nd'
  obtain ⟨⟨n1, n2, n3, n4⟩, ⟨n5, n6, n7⟩, ⟨n8, n9⟩, n10⟩ := nd'
  have gn : G ra = Option.none := hn ra (by simp)
  have f : Fr (foot a (.st C dx ra ta na hd rows things names)) G H (foot a (.st C dx ra ta na hd rows' things names)) G (upd H ra (.lst xs)) := (Fr.wr (u := .lst xs) gn).mono (fun b hb => by rw [List.mem_singleton.mp hb]; simp [foot]) fun b hb => .inr (.inl hb)
  refine ⟨m.change h f (m.wd.own gn (lstNe _)) ⟨⟨hv, rh, ?_⟩, hn, nd, ⟨xs, upd_same, r⟩, ⟨xt, by rw [upd_ne (Ne.symm n8)]; exact et, rt⟩, kn, by rw [upd_ne (Ne.symm n9)]; exact en, rn⟩ fun b hb => hb, Fr.cell h f⟩
  rcases sl with ⟨z, _⟩ | ⟨z, z2⟩
  · exact .inl ⟨by rw [upd_ne n2]; exact z, by assumption⟩
  · exact .inr ⟨by rw [upd_ne n2]; exact z, by rw [upd_ne n5]; exact z2⟩
theorem Mt.stThings (m : Mt K G H σ δ) (h : δ[i]? = some (.ow a (.st C dx ra ta na hd rows things names))) {xs : List V} {things' : List Dat} (r : RpA K G xs things') :
    Mt K G (upd H ta (.lst xs)) σ (δ.set i (.ow a (.st C dx ra ta na hd rows things' names))) ∧ Fr (feet δ) G H (feet (δ.set i (.ow a (.st C dx ra ta na hd rows things' names)))) G (upd H ta (.lst xs)) := by
  obtain ⟨e, ⟨hv, rh, sl⟩, hn, nd, ⟨xr, er, rr⟩, ⟨xt, et, rt⟩, kn, en, rn⟩ := m.stOk h
  have nd' := nd
  simp only [List.nodup_cons, List.mem_cons, List.not_mem_nil, or_false, not_or, not_false_eq_true, List.nodup_nil, and_true] at nd'
  obtain ⟨⟨n1, n2, n3, n4⟩, ⟨n5, n6, n7⟩, ⟨n8, n9⟩, n10⟩ := nd'
  have gn : G ta = Option.none := hn ta (by simp)
  have f : Fr (foot a (.st C dx ra ta na hd rows things names)) G H (foot a (.st C dx ra ta na hd rows things' names)) G (upd H ta (.lst xs)) := (Fr.wr (u := .lst xs) gn).mono (fun b hb => by rw [List.mem_singleton.mp hb]; simp [foot]) fun b hb => .inr (.inl hb)
  refine ⟨m.change h f (m.wd.own gn (lstNe _)) ⟨⟨hv, rh, ?_⟩, hn, nd, ⟨xr, by rw [upd_ne n8]; exact er, rr⟩, ⟨xs, upd_same, r⟩, kn, by rw [upd_ne (Ne.symm n10)]; exact en, rn⟩ fun b hb => hb, Fr.cell h f⟩
  rcases sl with ⟨z, _⟩ | ⟨z, z2⟩
  · exact .inl ⟨by rw [upd_ne n3]; exact z, by assumption⟩
  · exact .inr ⟨by rw [upd_ne n3]; exact z, by rw [upd_ne n6]; exact z2⟩
theorem Mt.stNames (m : Mt K G H σ δ) (h : δ[i]? = some (.ow a (.st C dx ra ta na hd rows things names))) {kvs : List (L2.Key × V)} {names' : List (Dat × Dat)} (r : RpK K G kvs names') :
    Mt K G (upd H na (.dK kvs)) σ (δ.set i (.ow a (.st C dx ra ta na hd rows things names'))) ∧ Fr (feet δ) G H (feet (δ.set i (.ow a (.st C dx ra ta na hd rows things names')))) G (upd H na (.dK kvs)) := by
  obtain ⟨e, ⟨hv, rh, sl⟩, hn, nd, ⟨xr, er, rr⟩, ⟨xt, et, rt⟩, kn, en, rn⟩ := m.stOk h
  have nd' := nd
  simp only [List.nodup_cons, List.mem_cons, List.not_mem_nil, or_false, not_or, not_false_eq_true, List.nodup_nil, and_true] at nd'
  obtain ⟨⟨n1, n2, n3, n4⟩, ⟨n5, n6, n7⟩, ⟨n8, n9⟩, n10⟩ := nd'
  have gn : G na = Option.none := hn na (by simp)
  have f : Fr (foot a (.st C dx ra ta na hd rows things names)) G H (foot a (.st C dx ra ta na hd rows things names')) G (upd H na (.dK kvs)) := (Fr.wr (u := .dK kvs) gn).mono (fun b hb => by rw [List.mem_singleton.mp hb]; simp [foot]) fun b hb => .inr (.inl hb)
  refine ⟨m.change h f (m.wd.own gn (dkNe _)) ⟨⟨hv, rh, ?_⟩, hn, nd, ⟨xr, by rw [upd_ne n9]; exact er, rr⟩, ⟨xt, by rw [upd_ne n10]; exact et, rt⟩, kvs, upd_same, r⟩ fun b hb => hb, Fr.cell h f⟩
  rcases sl with ⟨z, _⟩ | ⟨z, z2⟩
  · exact .inl ⟨by rw [upd_ne n4]; exact z, by assumption⟩
  · exact .inr ⟨by rw [upd_ne n4]; exact z, by rw [upd_ne n7]; exact z2⟩
end
section
variable {X : Cx} {δ : List Cell} {e k v : Expr} {i : Nat} {x : Str} {a C dx ra ta na : Addr} {hd d : Dat} {rows things : List Dat} {names : List (Dat × Dat)} {p pos pos' apos cpos : Pos} {Φ : Cell → List Cell → Prop} {Ψ : Dat → List Cell → Prop} {Ω : Out → Prop}
/-- self.its_house -/
theorem EvP.stHouse (c : StC X.K C) (h : δ[i]? = some (.ow a (.st C dx ra ta na hd rows things names))) (hn : NameAt X i x := by exact ⟨rfl, by first | exact Or.inl rfl | exact Or.inr (Or.inl rfl) | exact Or.inr (Or.inr rfl), by decide, by decide⟩)
    (hb : attributeBase (.Name x p) "its_house" X.env (eval (.Name x p) X.env) = eval (.Name x p) X.env := by rfl) : EvP X δ (.Attribute (.Name x p) "its_house" pos) hd := fun σ G H m Q q => by
  obtain ⟨e, ⟨hv, rh, sl⟩, _⟩ := m.stOk h
  obtain ⟨p0, t0⟩ := c.s0
  exact PE.w (SlX.pe_sl (peName hn) hb) ⟨.ref a, e, a, C, dx, p0, _, 0, hv, rfl, sl, c.cls, t0, rfl, q hv G H rh m.wd (Fr.refl _ _ _)⟩
/-- x in self.its_names -/
theorem EvTP.stIn {z : Str} (g : Gx X) (c : StC X.K C) (h : δ[i]? = some (.ow a (.st C dx ra ta na hd rows things names))) (hk : EvP X δ k (.str z)) (hn : NameAt X i x := by exact ⟨rfl, by first | exact Or.inl rfl | exact Or.inr (Or.inl rfl) | exact Or.inr (Or.inr rfl), by decide, by decide⟩)
    (hb : attributeBase (.Name x p) "its_names" X.env (eval (.Name x p) X.env) = eval (.Name x p) X.env := by rfl) (h1 : behindInMarks .In (.Attribute (.Name x p) "its_names" apos) = false := by rfl) : EvTP X δ (.Compare k [.In] [.Attribute (.Name x p) "its_names" apos] pos) (dlook names (.inr z)).isSome := fun σ G H m Q q => by
  refine PT.w (pt_cmp (pc_din (by have := g.hu; omega) peW (SlX.pe_sl (peName hn) hb)) h1) (oneP m hk fun y G2 H2 m2 r2 f2 => ?_)
  cases r2
  obtain ⟨e, ⟨hv, rh, sl⟩, _, _, _, _, kn, en, rn⟩ := m2.stOk h
  obtain ⟨p3, t3⟩ := c.s3
  refine ⟨.ref a, e, a, C, dx, p3, _, 1, _, rfl, sl, c.cls, t3, rfl, na, _, rfl, .inl ⟨kn, .inr z, .inl en, rfl, rfl⟩, _, rfl, ?_⟩
  rcases rn.look (.inr z) with ⟨v, d', e1, e2, _⟩ | ⟨e1, e2⟩
  · rw [e1]; rw [e2] at q; exact q G2 H2 m2.wd f2
  · rw [e1]; rw [e2] at q; exact q G2 H2 m2.wd f2
/-- self.its_names[x] = True -/
theorem RunS.stPut {z : Str} (g : Gx X) (c : StC X.K C) (h : δ[i]? = some (.ow a (.st C dx ra ta na hd rows things names))) (hv : EvP X δ v d) (hk : EvP X δ k (.str z)) (hz : names.length ≤ 1000) (hp : Ω (.nx (δ.set i (.ow a (.st C dx ra ta na hd rows things (dputK names (.inr z) d)))))) (hn : NameAt X i x := by exact ⟨rfl, by first | exact Or.inl rfl | exact Or.inr (Or.inl rfl) | exact Or.inr (Or.inr rfl), by decide, by decide⟩)
    (hb : attributeBase (.Name x p) "its_names" X.env (eval (.Name x p) X.env) = eval (.Name x p) X.env := by rfl) (hs : swapsWith v (some (.Subscript (.Attribute (.Name x p) "its_names" apos) k pos')) pos.line X.env = pure false := by rfl) :
    RunS X δ (.Assign [.Subscript (.Attribute (.Name x p) "its_names" apos) k pos'] v pos) Ω := fun σ G H m D r => by
  refine PS.w (ps_dput (by have := g.hu; omega) (SlX.pe_sl (peName hn) hb) peW peW hs) (oneP m hv fun vv G1 H1 m1 r1 f1 => ?_)
  obtain ⟨e, ⟨hv, rh, sl⟩, _⟩ := m1.stOk h
  obtain ⟨p3, t3⟩ := c.s3
  refine ⟨.ref a, e, a, C, dx, p3, _, 1, _, rfl, sl, c.cls, t3, rfl, oneP m1 hk fun y G2 H2 m2 r2 f2 => ?_⟩
  cases r2
  obtain ⟨_, _, _, _, _, _, kn, en, rn⟩ := m2.stOk h
  obtain ⟨m3, f3⟩ := m2.stNames h (rn.put (.inr z) (r1.mono f2.gg))
  exact ⟨na, _, rfl, .k (k := .inr z) en (by rw [rn.length]; exact small1000 hz), m3.nxOf ((Ext.up f1 _).trans ((Ext.up f2 _).trans f3)) r hp⟩
/-- self.its_rows.append(e), self.its_things.append(e) -/
theorem Ev.stAppR (c : StC X.K C) (h : δ[i]? = some (.ow a (.st C dx ra ta na hd rows things names))) (he : EvP X δ e d) (hz : rows.length ≤ 1000) (hk : Φ (.im .none) (δ.set i (.ow a (.st C dx ra ta na hd (rows ++ [d]) things names)))) (hn : NameAt X i x := by exact ⟨rfl, by first | exact Or.inl rfl | exact Or.inr (Or.inl rfl) | exact Or.inr (Or.inr rfl), by decide, by decide⟩)
    (hb : attributeBase (.Name x p) "its_rows" X.env (eval (.Name x p) X.env) = eval (.Name x p) X.env := by rfl) (hbase : attributeBase (.Attribute (.Name x p) "its_rows" apos) "append" X.env (eval (.Attribute (.Name x p) "its_rows" apos) X.env) = eval (.Attribute (.Name x p) "its_rows" apos) X.env := by rfl)
    (hfew : ((backTo cpos (starEach [e] X.env)).all (fun x => !x.1) && (backToKw cpos (keywordEach [] X.env)).all (fun x => x.1.isSome) && decide ([e].length + ([] : List Keyword).length + (if ([] : List Keyword).isEmpty then 0 else 1) < 30)) = true := by rfl)
    (hline : (pos.endLine == cpos.line) = true := by rfl) (hs : starEach [e] X.env = (false, eval e X.env) :: starEach [] X.env := by rfl) : Ev X δ (.Call (.Attribute (.Attribute (.Name x p) "its_rows" apos) "append" pos) [e] [] cpos) Φ := fun σ G H m Q qq => by
  obtain ⟨e0, ⟨hv, rh, sl⟩, _, _, ⟨xr, er, rr⟩, _⟩ := m.stOk h
  obtain ⟨p1, t1⟩ := c.s1
  refine PE.w (pe_bm PySem.F.plainAttrs_list PySem.F.slot_list_append PySem.F.type_list_append mt_append (SlX.pe_sl (peName hn) hb) (pa_cons peW pa_nil hs) hbase hfew hline hs rfl) ⟨.ref a, e0, a, C, dx, p1, _, 2, _, rfl, sl, c.cls, t1, rfl, tyList er, ?_⟩
  refine oneP m he fun vv G1 H1 m1 r1 f1 => ?_
  obtain ⟨_, _, _, _, ⟨xr1, er1, rr1⟩, _⟩ := m1.stOk h
  obtain ⟨m2, f2⟩ := m1.stRows h (rr1.app (.cons r1 .nil))
  exact ⟨ra, xr1, vv, rfl, rfl, er1, by rw [rr1.length]; exact small1000 hz, m2.frN ((Ext.up f1 _).trans f2) qq hk⟩
theorem Ev.stAppT (c : StC X.K C) (h : δ[i]? = some (.ow a (.st C dx ra ta na hd rows things names))) (he : EvP X δ e d) (hz : things.length ≤ 1000) (hk : Φ (.im .none) (δ.set i (.ow a (.st C dx ra ta na hd rows (things ++ [d]) names)))) (hn : NameAt X i x := by exact ⟨rfl, by first | exact Or.inl rfl | exact Or.inr (Or.inl rfl) | exact Or.inr (Or.inr rfl), by decide, by decide⟩)
    (hb : attributeBase (.Name x p) "its_things" X.env (eval (.Name x p) X.env) = eval (.Name x p) X.env := by rfl) (hbase : attributeBase (.Attribute (.Name x p) "its_things" apos) "append" X.env (eval (.Attribute (.Name x p) "its_things" apos) X.env) = eval (.Attribute (.Name x p) "its_things" apos) X.env := by rfl)
    (hfew : ((backTo cpos (starEach [e] X.env)).all (fun x => !x.1) && (backToKw cpos (keywordEach [] X.env)).all (fun x => x.1.isSome) && decide ([e].length + ([] : List Keyword).length + (if ([] : List Keyword).isEmpty then 0 else 1) < 30)) = true := by rfl)
    (hline : (pos.endLine == cpos.line) = true := by rfl) (hs : starEach [e] X.env = (false, eval e X.env) :: starEach [] X.env := by rfl) : Ev X δ (.Call (.Attribute (.Attribute (.Name x p) "its_things" apos) "append" pos) [e] [] cpos) Φ := fun σ G H m Q qq => by
  obtain ⟨e0, ⟨hv, rh, sl⟩, _, _, _, ⟨xr, er, rr⟩, _⟩ := m.stOk h
  obtain ⟨p1, t1⟩ := c.s2
  refine PE.w (pe_bm PySem.F.plainAttrs_list PySem.F.slot_list_append PySem.F.type_list_append mt_append (SlX.pe_sl (peName hn) hb) (pa_cons peW pa_nil hs) hbase hfew hline hs rfl) ⟨.ref a, e0, a, C, dx, p1, _, 3, _, rfl, sl, c.cls, t1, rfl, tyList er, ?_⟩
  refine oneP m he fun vv G1 H1 m1 r1 f1 => ?_
  obtain ⟨_, _, _, _, _, ⟨xr1, er1, rr1⟩, _⟩ := m1.stOk h
  obtain ⟨m2, f2⟩ := m1.stThings h (rr1.app (.cons r1 .nil))
  exact ⟨ta, xr1, vv, rfl, rfl, er1, by rw [rr1.length]; exact small1000 hz, m2.frN ((Ext.up f1 _).trans f2) qq hk⟩
/-- self.its_things.remove(e), there -/
theorem RpA.eraseIdx {K : PySem.W.Frag} {G : Hp} : ∀ {vs : List V} {ds : List Dat} (j : Nat), RpA K G vs ds → RpA K G (vs.eraseIdx j) (ds.eraseIdx j)
  | _, _, _, .nil => .nil
  | _, _, 0, .cons _ t => t
  | _, _, j + 1, .cons r t => .cons r (RpA.eraseIdx j t)
theorem Ev.stRem {j : Nat} (g : Gx X) (c : StC X.K C) (h : δ[i]? = some (.ow a (.st C dx ra ta na hd rows things names))) (he : EvP X δ e d) (hz : things.length ≤ 1000) (h1 : PyData.plainAll (pyAll things) = true) (h2 : d.py.plain = true) (h3 : d.py.depth ≤ 50) (hj : SeqAt.dataPlace (pyAll things) d.py = some j) (hk : Φ (.im .none) (δ.set i (.ow a (.st C dx ra ta na hd rows (things.eraseIdx j) names)))) (hn : NameAt X i x := by exact ⟨rfl, by first | exact Or.inl rfl | exact Or.inr (Or.inl rfl) | exact Or.inr (Or.inr rfl), by decide, by decide⟩)
    (hb : attributeBase (.Name x p) "its_things" X.env (eval (.Name x p) X.env) = eval (.Name x p) X.env := by rfl) (hbase : attributeBase (.Attribute (.Name x p) "its_things" apos) "remove" X.env (eval (.Attribute (.Name x p) "its_things" apos) X.env) = eval (.Attribute (.Name x p) "its_things" apos) X.env := by rfl)
    (hfew : ((backTo cpos (starEach [e] X.env)).all (fun x => !x.1) && (backToKw cpos (keywordEach [] X.env)).all (fun x => x.1.isSome) && decide ([e].length + ([] : List Keyword).length + (if ([] : List Keyword).isEmpty then 0 else 1) < 30)) = true := by rfl)
    (hline : (pos.endLine == cpos.line) = true := by rfl) (hs : starEach [e] X.env = (false, eval e X.env) :: starEach [] X.env := by rfl) : Ev X δ (.Call (.Attribute (.Attribute (.Name x p) "its_things" apos) "remove" pos) [e] [] cpos) Φ := fun σ G H m Q qq => by
  obtain ⟨e0, ⟨hv, rh, sl⟩, _, _, _, ⟨xr, er, rr⟩, _⟩ := m.stOk h
  obtain ⟨p1, t1⟩ := c.s2
  refine PE.w (pe_bm (id := "list.remove") (r := fun x vs H Q => wpM X "list.remove" x vs H Q) PySem.F.plainAttrs_list PySem.F.slot_list_remove PySem.F.type_list_remove metW (SlX.pe_sl (peName hn) hb) (pa_cons peW pa_nil hs) hbase hfew hline hs rfl) ⟨.ref a, e0, a, C, dx, p1, _, 3, _, rfl, sl, c.cls, t1, rfl, tyList er, ?_⟩
  refine oneP m he fun vv G1 H1 m1 r1 f1 => ?_
  obtain ⟨_, _, _, _, _, ⟨xr1, er1, rr1⟩, _⟩ := m1.stOk h
  intro pins s σ' u us I ru rus
  cases ru
  obtain ⟨w1, rfl, rw1⟩ := vals1 rus
  obtain ⟨zl, its, n, rt, hl, eo⟩ := I.lstM er1
  obtain ⟨as', ra', _⟩ := rr1.reads g.sm I m1.wd rt
  obtain ⟨bs, rb, _⟩ := r1.reads g.sm I m1.wd rw1
  refine SeqAt.remove_list_data (j := j) ⟨_, eo, rfl, n, rfl⟩ (by simpa using ra') rb h1 h2 (by have := g.hu; omega) hj (by rw [List.size_toArray, ← rt.length]; exact zl) ?_
  obtain ⟨m2, f2⟩ := m1.stThings h (rr1.eraseIdx j)
  refine ⟨.non, _, I.lset (its' := its.eraseIdx j) (t' := s.toks) er1 eo ?_ (rt.eraseIdx j) ?_, rfl, m2.frN ((Ext.up f1 _).trans f2) qq hk⟩
  · show its.toArray.eraseIdxIfInBounds j = (its.eraseIdx j).toArray
    rw [List.eraseIdxIfInBounds_toArray]
  · refine Nat.le_trans ?_ zl
    rw [List.length_eraseIdx]
    split <;> omega
end
end K94
end

/-! text KX -/
section
set_option Elab.async false
set_option linter.all false
set_option maxRecDepth 100000
set_option maxHeartbeats 4000000
set_option autoImplicit true
/-! the class with slots: its list walked, its methods called, made -/
namespace K94
open PySem PySem.Spec PyProof.Rows L2

section
variable {X : Cx} {δ : List Cell} {e tg : Expr} {es : List Expr} {body : List Stmt} {i : Nat} {x m : Str} {a C dx ra ta na : Addr} {hd d : Dat} {rows things : List Dat} {names : List (Dat × Dat)} {p pos pos' apos cpos : Pos} {Φ : Cell → List Cell → Prop} {Ψ : Dat → List Cell → Prop} {Ω : Out → Prop}
/-- for .. in self.its_things, that stay as they are -/
theorem RunS.stFor (g : Gx X) (c : StC X.K C) (h : δ[i]? = some (.ow a (.st C dx ra ta na hd rows things names))) (I : Nat → List Cell → Prop) (h0 : I 0 δ) (hI : ∀ j δ', I j δ' → ∃ rows' names', δ'[i]? = some (.ow a (.st C dx ra ta na hd rows' things names')))
    (step : ∀ j d δ', things[j]? = some d → I j δ' → ∃ δ2, AsD X δ' tg d δ2 ∧ Run X δ2 body (turnPost Ω (I (j + 1)))) (fin : ∀ δ', I things.length δ' → Ω (.nx δ')) (hn : NameAt X i x := by exact ⟨rfl, by first | exact Or.inl rfl | exact Or.inr (Or.inl rfl) | exact Or.inr (Or.inr rfl), by decide, by decide⟩)
    (hb : attributeBase (.Name x p) "its_things" X.env (eval (.Name x p) X.env) = eval (.Name x p) X.env := by rfl) (hpo : PassesOwn (model X.prog X.w) X.A X.env X.xe := by first | exact PassesOwn.never | exact po_of rfl) (hs : ∀ z, foldedSetIterable (.Attribute (.Name x p) "its_things" apos) X.env z = pure z := by intro _; rfl) :
    RunS X δ (.For tg (.Attribute (.Name x p) "its_things" apos) body [] pos) Ω := fun σ G H mt D r => by
  obtain ⟨e0, ⟨hv, rh, sl⟩, _, _, _, ⟨xt, et, rt⟩, _⟩ := mt.stOk h
  obtain ⟨p2, t2⟩ := c.s2
  refine PS.w (ps_for hpo g.calm (pi_list (SlX.pe_sl (peName hn) hb)) pgW pssW hs) ⟨.ref a, e0, a, C, dx, p2, _, 3, _, rfl, sl, c.cls, t2, rfl, ta, rfl, ⟨xt, SqL.of et⟩, ?_⟩
  refine ⟨fun j k σ1 H1 => k = things.length - j ∧ j ≤ things.length ∧ ∃ G' δ', Mt X.K G' H1 σ1 δ' ∧ I j δ' ∧ Fr (feet δ) G H (feet δ') G' H1, ⟨_, rfl, Nat.zero_le _, G, δ, mt, h0, Fr.refl _ _ _⟩, ?_⟩
  rintro j k σ1 H1 ⟨rfl, hj, G1, δ1, m1, h1, f1⟩
  obtain ⟨rows', names', hc⟩ := hI j δ1 h1
  obtain ⟨_, _, _, _, _, ⟨xs, es, rs⟩, _⟩ := m1.stOk hc
  by_cases hlt : j < things.length
  · have hx : j < xs.length := by rw [rs.length]; exact hlt
    refine .inr ⟨⟨xs, xs[j], SqL.of es, List.getElem?_eq_getElem hx⟩, fun σ' H' => j + 1 ≤ things.length ∧ ∃ G' δ', Mt X.K G' H' σ' δ' ∧ I (j + 1) δ' ∧ Fr (feet δ) G H (feet δ') G' H', fun σ' H' z => ⟨things.length - (j + 1), by omega, rfl, z.1, z.2⟩, fun v H' y => ?_⟩
    obtain ⟨rfl, hy⟩ := y
    obtain ⟨d, hd2, rd⟩ := rs.get (hy xs (SqL.of es))
    obtain ⟨δ2, ha, hrun⟩ := step j d δ1 hd2 h1
    refine ha.2 σ1 G1 H' v m1 rd _ fun σ2 m2 => hrun σ2 G1 H' m2 _ ?_
    have f2 : Fr (feet δ) G H (feet δ2) G1 H' := f1.less ha.1
    have again : ∀ (δ3 : List Cell) (σ3 : SS) (G3 H3 : Hp), I (j + 1) δ3 → Mt X.K G3 H3 σ3 δ3 → Fr (feet δ2) G1 H' (feet δ3) G3 H3 → j + 1 ≤ things.length ∧ ∃ G' δ', Mt X.K G' H3 σ3 δ' ∧ I (j + 1) δ' ∧ Fr (feet δ) G H (feet δ') G' H3 := fun δ3 σ3 G3 H3 h3 m3 f3 => ⟨hlt, G3, δ3, m3, h3, f2.trans f3⟩
    exact ⟨again, fun δ3 σ3 G3 H3 h3 m3 f3 => r.nx δ3 σ3 G3 H3 h3 m3 (f2.trans f3), again, fun rr δ3 v3 σ3 G3 H3 h3 m3 f3 => r.rt rr δ3 v3 σ3 G3 H3 h3 m3 (f2.trans f3)⟩
  · have ej : j = things.length := by omega
    subst ej
    exact .inl ⟨⟨xs, SqL.of es, by rw [rs.length]; exact Nat.le_refl _⟩, r.nx δ1 σ1 G1 H1 (fin δ1 h1) m1 f1⟩
/-! methods -/
/-- a method of the class at C -/
def HasM (P : Program) (w : World) (K : PySem.W.Frag) (mg : Str → Option Value) (base : Heap) (k : Nat) (C : Addr) (m : Str) (sp : SpG) : Prop := ∃ f fd ps, FnG P w K mg base k f fd ps sp ∧ Meth K C m f ∧ Binds K fd ps []
theorem peMethG {k : Nat} {f : Addr} {fd : FuncData} {ps : List Str} {sp : SpG} {o : Expr} {tt : TE} {t : TA} {pl : Sem Bool} (he : PE X o tt) (c : SlX.SCls X.K C) (hm : Meth X.K C m f) (F : FnG X.prog X.w X.K X.mg X.base k f fd ps sp) (hr : Room k X.A) (gd : X.A.guards = some []) (hb : Binds X.K fd ps []) (ha : PA X (e :: es) t)
    (hst : starEach (e :: es) X.env = (false, eval e X.env) :: starEach es X.env := by rfl) (hpl : (backTo pos (starEach es X.env)).any (·.1) = false := by rfl)
    (ht : eval (.Call (.Attribute o m apos) (e :: es) [] pos) X.env = (do
      let ov ← eval o X.env
      standAt apos.atName
      let (f, first) ← holding [ov] (getMethod ov m pl)
      callWith pos f first (backTo pos (starEach (e :: es) X.env)) (backToKw pos (keywordEach [] X.env))) := by rfl) :
    PE X (.Call (.Attribute o m apos) (e :: es) [] pos) (fun σ H Q => tt σ H fun y H1 => ∃ a dx vs, y = .ref a ∧ SlX.Slt H1 a C dx vs ∧ t σ H1 fun ws H2 => sp (y :: ws) H2 Q) := by
  refine ⟨fun pins s σ H Q I h => PySem.W.methodCall_KW (pl := pl) (thn (he.run pins s σ H _ I h) fun u s1 ⟨y, H1, I1, rx, a, dx, vs, ex, hsl, q⟩ => ?_) ht⟩
  subst ex
  obtain rfl : u = Value.ref a := rx
  refine SlX.getmethsl_ok I1 hsl c hm ?_
  exact PySem.W.callWith_K (first := [.ref a]) (h₀ := X.base) I.ok.mod.kin hm.kp (thn (ha.run pos pins s1 σ H1 _ I1 q) fun us s2 ⟨ws, H2, I2, r, q2⟩ => ⟨I2.kIn, runFnG (us := .ref a :: us) (vs := V.ref a :: ws) F hr gd hb I2 (Paired.cons (F := RelV) (show RelV (V.ref a) (Value.ref a) from rfl) r) q2⟩) hst hpl
theorem peMethG0 {k : Nat} {f : Addr} {fd : FuncData} {ps : List Str} {sp : SpG} {o : Expr} {tt : TE} {pl : Sem Bool} (he : PE X o tt) (c : SlX.SCls X.K C) (hm : Meth X.K C m f) (F : FnG X.prog X.w X.K X.mg X.base k f fd ps sp) (hr : Room k X.A) (gd : X.A.guards = some []) (hb : Binds X.K fd ps [])
    (ht : eval (.Call (.Attribute o m apos) [] [] pos) X.env = (do
      let ov ← eval o X.env
      standAt apos.atName
      let (f, first) ← holding [ov] (getMethod ov m pl)
      callWith pos f first (backTo pos (starEach [] X.env)) (backToKw pos (keywordEach [] X.env))) := by rfl) :
    PE X (.Call (.Attribute o m apos) [] [] pos) (fun σ H Q => tt σ H fun y H1 => ∃ a dx vs, y = .ref a ∧ SlX.Slt H1 a C dx vs ∧ sp [y] H1 Q) := by
  refine ⟨fun pins s σ H Q I h => PySem.W.methodCall_KW (pl := pl) (thn (he.run pins s σ H _ I h) fun u s1 ⟨y, H1, I1, rx, a, dx, vs, ex, hsl, q⟩ => ?_) ht⟩
  subst ex
  obtain rfl : u = Value.ref a := rx
  refine SlX.getmethsl_ok I1 hsl c hm ?_
  exact PySem.W.callWith_K0 (first := [.ref a]) I1.kIn hm.kp (runFnG (us := [.ref a]) (vs := [V.ref a]) F hr gd hb I1 (Paired.cons (F := RelV) (show RelV (V.ref a) (Value.ref a) from rfl) .nil) q)
theorem EvI.meth {k : Nat} {R : Ow → List Dat → (Dat → Ow → Prop) → Prop} {pl : Sem Bool} {ds : List Dat} {Ρ : Dat → Ow → Prop} (g : Gx X) (c : StC X.K C) (hh : HasM X.prog X.w X.K X.mg X.base k C m (BorSp X.K R)) (hr : Room k X.A) (h : δ[i]? = some (.ow a (.st C dx ra ta na hd rows things names)))
    (ha : EvAP X δ (e :: es) ds) (hR : R (.st C dx ra ta na hd rows things names) ds Ρ) (hk : ∀ d o', Ρ d o' → SameFoot (.st C dx ra ta na hd rows things names) o' → Ψ d (δ.set i (.ow a o'))) (hn : NameAt X i x := by exact ⟨rfl, by first | exact Or.inl rfl | exact Or.inr (Or.inl rfl) | exact Or.inr (Or.inr rfl), by decide, by decide⟩)
    (hst : starEach (e :: es) X.env = (false, eval e X.env) :: starEach es X.env := by rfl) (hpl : (backTo pos (starEach es X.env)).any (·.1) = false := by rfl)
    (ht : eval (.Call (.Attribute (.Name x p) m apos) (e :: es) [] pos) X.env = (do
      let ov ← eval (.Name x p) X.env
      standAt apos.atName
      let (f, first) ← holding [ov] (getMethod ov m pl)
      callWith pos f first (backTo pos (starEach (e :: es) X.env)) (backToKw pos (keywordEach [] X.env))) := by rfl) :
    EvI X δ (.Call (.Attribute (.Name x p) m apos) (e :: es) [] pos) Ψ := fun σ G H mt Q qq => by
  obtain ⟨f, fd, ps, F, hM, hb⟩ := hh
  obtain ⟨e0, ok⟩ := mt.stOk h
  obtain ⟨⟨hv, rh, sl⟩, _⟩ := id ok
  refine PE.w (peMethG (peName hn) c.cls hM F hr g.gd hb paW hst hpl ht) ⟨.ref a, e0, a, dx, _, rfl, sl, ha σ G H mt _ fun vs G1 H1 r1 w1 f1 => ?_⟩
  have m1 := mt.ext f1 w1
  obtain ⟨_, ok1⟩ := m1.stOk h
  refine ⟨G1, a, _, ds, Ρ, vs, rfl, hR, w1, ok1, r1, fun d o' v G2 H2 hΡ sf rv oa w2 f2 => ?_⟩
  exact qq d _ v G2 H2 (hk d o' hΡ sf) (m1.change h f2 w2 oa fun b hb => by rw [← sf a]; exact hb) rv ((Ext.up f1 _).trans (Fr.cell h f2))
theorem EvI.meth0 {k : Nat} {R : Ow → List Dat → (Dat → Ow → Prop) → Prop} {pl : Sem Bool} {Ρ : Dat → Ow → Prop} (g : Gx X) (c : StC X.K C) (hh : HasM X.prog X.w X.K X.mg X.base k C m (BorSp X.K R)) (hr : Room k X.A) (h : δ[i]? = some (.ow a (.st C dx ra ta na hd rows things names)))
    (hR : R (.st C dx ra ta na hd rows things names) [] Ρ) (hk : ∀ d o', Ρ d o' → SameFoot (.st C dx ra ta na hd rows things names) o' → Ψ d (δ.set i (.ow a o'))) (hn : NameAt X i x := by exact ⟨rfl, by first | exact Or.inl rfl | exact Or.inr (Or.inl rfl) | exact Or.inr (Or.inr rfl), by decide, by decide⟩)
    (ht : eval (.Call (.Attribute (.Name x p) m apos) [] [] pos) X.env = (do
      let ov ← eval (.Name x p) X.env
      standAt apos.atName
      let (f, first) ← holding [ov] (getMethod ov m pl)
      callWith pos f first (backTo pos (starEach [] X.env)) (backToKw pos (keywordEach [] X.env))) := by rfl) :
    EvI X δ (.Call (.Attribute (.Name x p) m apos) [] [] pos) Ψ := fun σ G H mt Q qq => by
  obtain ⟨f, fd, ps, F, hM, hb⟩ := hh
  obtain ⟨e0, ok⟩ := mt.stOk h
  obtain ⟨⟨hv, rh, sl⟩, _⟩ := id ok
  refine PE.w (peMethG0 (peName hn) c.cls hM F hr g.gd hb ht) ⟨.ref a, e0, a, dx, _, rfl, sl, G, a, _, [], Ρ, [], rfl, hR, mt.wd, ok, .nil, fun d o' v G2 H2 hΡ sf rv oa w2 f2 => ?_⟩
  exact qq d _ v G2 H2 (hk d o' hΡ sf) (mt.change h f2 w2 oa fun b hb => by rw [← sf a]; exact hb) rv (Fr.cell h f2)
/-- a method of a new object that no name holds -/
theorem EvI.methNew {k : Nat} {R : Ow → List Dat → (Dat → Ow → Prop) → Prop} {pl : Sem Bool} {o : Expr} (g : Gx X) (c : StC X.K C) (hh : HasM X.prog X.w X.K X.mg X.base k C m (BorSp X.K R)) (hr : Room k X.A)
    (ho : Ev X δ o fun r δ1 => ∃ a dx ra ta na hd rows things names Ρ, r = .ow a (.st C dx ra ta na hd rows things names) ∧ R (.st C dx ra ta na hd rows things names) [] Ρ ∧ ∀ d o', Ρ d o' → Ψ d δ1)
    (ht : eval (.Call (.Attribute o m apos) [] [] pos) X.env = (do
      let ov ← eval o X.env
      standAt apos.atName
      let (f, first) ← holding [ov] (getMethod ov m pl)
      callWith pos f first (backTo pos (starEach [] X.env)) (backToKw pos (keywordEach [] X.env))) := by rfl) : EvI X δ (.Call (.Attribute o m apos) [] [] pos) Ψ := fun σ G H mt Q qq => by
  obtain ⟨f, fd, ps, F, hM, hb⟩ := hh
  refine PE.w (peMethG0 peW c.cls hM F hr g.gd hb ht) (ho σ G H mt _ fun r δ1 v G1 H1 ⟨a, dx, ra, ta, na, hd, rows, things, names, Ρ, er, hR, hk⟩ m1 f1 => ?_)
  subst er
  obtain ⟨⟨ev, ok⟩, hap⟩ := m1.head
  cases ev
  obtain ⟨⟨hv, rh, sl⟩, _⟩ := id ok
  refine ⟨a, dx, _, rfl, sl, G1, a, _, [], Ρ, [], rfl, hR, m1.wd, ok, .nil, fun d o' v G2 H2 hΡ sf rv oa w2 f2 => ?_⟩
  have off : ∀ b ∈ feet δ1, b ∉ foot a (.st C dx ra ta na hd rows things names) := fun b hb hm => by
    obtain ⟨c', hc', hb'⟩ := mem_feet.mp hb
    exact hap c' hc' b hm hb'
  have m2 := m1.tail.step f2 w2 off
  refine qq d δ1 v G2 H2 (hk d o' hΡ) m2 rv (f1.trans ?_)
  rw [feet_cons]
  exact f2.mono (fun b hb => List.mem_append_left _ hb) fun b hb => .inr (.inl (List.mem_append_right _ hb))
/-! made -/
/-- what __init__ keeps -/
def InitSp (K : PySem.W.Frag) (C : Addr) (W : Dat → Prop) : SpG := fun vs H Q => ∃ G y dx hv hd, vs = [.ref y, hv] ∧ W hd ∧ Wd G H ∧ H y = some (.ins C dx []) ∧ H dx = some (.own y) ∧ dx ≠ y ∧ G y = none ∧ G dx = none ∧ Rp K G hv hd ∧
  ∀ G' H' ra ta na, OwAt K G' H' y (.st C dx ra ta na hd [] [] []) → Wd G' H' → Fr [y, dx] G H [y, dx, ra, ta, na] G' H' → Q .non H'
theorem underGuards {A : Around} {C : Addr} {us : List Value} {kw : List (Str × Value)} (h : A.guards = some []) : (A.under (.builtin "type.__call__" ⟨.ref C :: us, kw⟩)).guards = some [] := by
  first
    | exact h
    | simpa [Around.under, Code.weight, Code.isCreation, Code.isGuard, Code.isCaller, Code.frames, Code.isFrame, guardIds] using h
theorem runMakeG {k : Nat} {f : Addr} {fd : FuncData} {ps : List Str} {sp : SpG} {pins : List (Addr × Obj)} {σ : SS} {H : Hp} {s : Shared} {Q : VK} {us : List Value} {vs : List V} (M : Mk X.K C f) (F : FnG X.prog X.w X.K X.mg X.base k f fd ps sp) (hr : Room (k + 1) X.A) (gd : X.A.guards = some []) (hb : Binds X.K fd ps []) (I : Inv X pins σ H s) (r : Vals vs us)
    (h : ∀ y dx, H y = none → H dx = none → dx ≠ y → sp (.ref y :: vs) (upd (upd H dx (.own y)) y (.ins C dx [])) (fun v H2 => v = .non ∧ Q (.ref y) H2)) : wpAny (model X.prog X.w) X.A (call (.ref C) us) (EP X pins σ Q) X.xe s := by
  have hq := h (s.heap.objs.size + 1) s.heap.objs.size (I.hok.fresh (Nat.le_succ _)) (I.hok.fresh (Nat.le_refl _)) (Nat.ne_of_lt (Nat.lt_succ_self _))
  have I2 := Inv.made (C := C) I
  have rr : Vals (V.ref (s.heap.objs.size + 1) :: vs) (Value.ref (s.heap.objs.size + 1) :: us) := .cons rfl r
  have len : (Value.ref (s.heap.objs.size + 1) :: us).length = ps.length := by rw [← rr.length]; exact F.many _ _ _ hq
  have bb := hb _ (Value.ref (s.heap.objs.size + 1) :: us) I2.kIn (by rw [List.append_nil]; exact len)
  rw [List.append_nil] at bb
  refine wpAny_call (make_map (f := f) I.kIn M.makes M.init (beq_iff_eq.mp M.fn) (codeAny_mono (F.runs _ X.stack _ _ ⟨Value.ref (s.heap.objs.size + 1) :: us, []⟩ _ _ _ (hr.make C us []) (underGuards gd) (I2.env0.make C us []) bb rr hq) fun r' s' hq' => ?_))
  cases r' with
  | error e => exact False.elim hq'
  | ok fl =>
    cases fl with
    | ret u =>
      obtain ⟨v, H', I3, rv, ev, q3⟩ := I2.after hq'
      subst ev
      exact ⟨rv, ⟨V.ref (s.heap.objs.size + 1), H', I3, rfl, q3⟩⟩
    | next => exact False.elim hq'
    | brk => exact False.elim hq'
    | cont => exact False.elim hq'
theorem Ev.make {k : Nat} {W : Dat → Prop} {f : Addr} {fd : FuncData} {ps : List Str} (g : Gx X) (M : Mk X.K C f) (F : FnG X.prog X.w X.K X.mg X.base k f fd ps (InitSp X.K C W)) (hb : Binds X.K fd ps []) (hr : Room (k + 1) X.A) (hm : X.mg x = some (.ref C)) (he : EvP X δ e hd) (hW : W hd) (hk : ∀ a dx ra ta na, Φ (.ow a (.st C dx ra ta na hd [] [] [])) δ)
    (hg : Gl X x := by rfl) (hdb : (x == ("__debug__" : Str)) = false := by decide) (hs : starEach [e] X.env = (false, eval e X.env) :: starEach [] X.env := by rfl) : Ev X δ (.Call (.Name x p) [e] [] pos) Φ := fun σ G H mt Q q pins s I => by
  refine wpAny_Call_Name_kw (ld_glob I hg hm ?_ hdb)
  refine PySem.W.callWith_K (h₀ := X.base) I.ok.mod.kin M.kp (thn ((pa_cons (peW (X := X) (e := e)) pa_nil hs).run pos pins s σ H (fun vs H1 => ∃ v G1, vs = [v] ∧ Rp X.K G1 v hd ∧ Mt X.K G1 H1 σ δ ∧ Ext G H G1 H1) I (oneP mt he fun v G1 H1 m1 r1 f1 => ⟨v, G1, rfl, r1, m1, f1⟩)) fun us s1 ⟨vs, H1, I1, r, v, G1, ev, rv, m1, f1⟩ => ⟨I1.kIn, ?_⟩) hs rfl
  subst ev
  refine runMakeG M F hr g.gd hb I1 r fun y dx ny ndx hne => ?_
  have gy := m1.wd.none ny
  have gdx := m1.wd.none ndx
  have w2 : Wd G1 (upd H1 dx (.own y)) := m1.wd.own gdx (fun xs z => nomatch z)
  have w3 : Wd G1 (upd (upd H1 dx (.own y)) y (.ins C dx [])) := w2.own gy (fun xs z => nomatch z)
  refine ⟨G1, y, dx, v, hd, rfl, hW, w3, upd_same, by rw [upd_ne hne]; exact upd_same, hne, gy, gdx, rv, fun G' H' ra ta na oa w4 f4 => ⟨rfl, ?_⟩⟩
  have f3 : Fr [] G1 H1 [y, dx] G1 (upd (upd H1 dx (.own y)) y (.ins C dx [])) := ⟨Le.refl _, fun b u eb _ => by rw [upd_ne (ne_of_none eb ny), upd_ne (ne_of_none eb ndx)]; exact eb, fun b hb2 => by
      have : b = y ∨ b = dx := by simpa using hb2
      rcases this with z | z
      · rw [z]; exact .inr ny
      · rw [z]; exact .inr ndx, fun b u eb gg _ => gg⟩
  obtain ⟨m5, f5⟩ := m1.newCell oa w4 (f3.trans f4)
  exact q _ _ _ G' H' (hk y dx ra ta na) m5 ((Ext.up f1 _).trans f5)
/-! an attribute as a target -/
def gSl (K : PySem.W.Frag) (tt : TE) (f : Str) : TG := fun v σ H Q => tt σ H fun y H2 => ∃ a C dx p vs i, y = .ref a ∧ SlX.Slt H2 a C dx vs ∧ SlX.SCls K C ∧ SlX.Slot1 K C f p i ∧ Q σ (SlX.slH H2 a C dx (SlX.putS i v vs))
theorem pg_sl {o : Expr} {f : Str} {tt : TE} (ho : PE X o tt) : PG X (.Attribute o f pos) (gSl X.K tt f) := by
  refine ⟨fun pins s σ H v u Q I r h => ?_⟩
  rw [assign_Attribute]
  refine wpAny_bind (wpAny_holding (thn (ho.run pins s σ H _ I h) fun ov s1 ⟨y, H1, I1, ry, a, C, dx, p, vs, i, ey, sl, c, t, q⟩ => wpAny_bind (wpAny_standAt (wpAny_bind (wpAny_holding ?_)))))
  subst ey
  obtain rfl : ov = Value.ref a := ry
  exact SlX.setslot_ok I1 sl c t r fun s2 I2 => wpAny_release ⟨σ, _, I2, q⟩
end
end K94
end

/-! text WL -/
section
set_option Elab.async false
set_option linter.all false
set_option maxRecDepth 100000
set_option maxHeartbeats 4000000
set_option autoImplicit true
/-! small facts -/
namespace K94
open PySem PySem.Spec PyProof.Rows L2

theorem tK_S (ps : List Str) : tK (ps.map Sum.inr) = tS ps := by
  show Dat.tuple _ = Dat.tuple _
  rw [List.map_map]; rfl
/-- text to number -/
def mD (ks : List Str) (f : Str → Int) : Dat := .dict (ks.map fun k => (.str k, .int (f k)))
theorem isK_str (a b : Str) : isK (.str a) (.inr b) = decide (a = b) := rfl
theorem dlook_map {α : Type} (g : α → L2.Key) (r : α → Dat) (kk : L2.Key) : ∀ {l : List α} {x : α}, (∀ y ∈ l, g y = kk → r y = r x) → x ∈ l → g x = kk → dlook (l.map fun y => (kD (g y), r y)) kk = some (r x)
  | y :: l, x, h, hx, e => by
    show (if isK (kD (g y)) kk = true then some (r y) else dlook (l.map fun y => (kD (g y), r y)) kk) = _
    rw [isK_kD]
    by_cases hy : g y = kk
    · rw [if_pos (by simpa using hy), h y List.mem_cons_self hy]
    · rw [if_neg (by simpa using hy)]
      rcases List.mem_cons.mp hx with rfl | z
      · exact absurd e hy
      · exact dlook_map g r kk (fun y hy => h y (List.mem_cons_of_mem _ hy)) z e
theorem dlook_none {α : Type} (g : α → L2.Key) (r : α → Dat) (kk : L2.Key) : ∀ {l : List α}, (∀ y ∈ l, g y ≠ kk) → dlook (l.map fun y => (kD (g y), r y)) kk = none
  | [], _ => rfl
  | y :: l, h => by
    show (if isK (kD (g y)) kk = true then some (r y) else dlook (l.map fun y => (kD (g y), r y)) kk) = _
    rw [isK_kD, if_neg (by simpa using h y List.mem_cons_self)]
    exact dlook_none g r kk fun y hy => h y (List.mem_cons_of_mem _ hy)
theorem dlook_str (r : Str → Dat) {ks : List Str} {z : Str} (h : z ∈ ks) : dlook (ks.map fun k => (.str k, r k)) (.inr z) = some (r z) :=
  dlook_map (g := Sum.inr) r (.inr z) (fun y _ e => by cases e; rfl) h rfl
theorem dlook_mD {f : Str → Int} {ks : List Str} {z : Str} (h : z ∈ ks) : dlook (ks.map fun k => (Dat.str k, Dat.int (f k))) (.inr z) = some (.int (f z)) := dlook_str (fun k => .int (f k)) h
theorem isKs_tS (p q : List Str) : isKs (tS p) (q.map Sum.inr) = decide (p = q) := by
  rw [← tK_S, isKs_tK]
  by_cases h : p = q
  · subst h; simp
  · have : p.map (Sum.inr (α := Int)) ≠ q.map Sum.inr := fun e => h ((List.map_inj_right (fun a b z => Sum.inr.inj z)).mp e)
    simp [h, this]
theorem dlookT_map {α : Type} (g : α → List Str) (r : α → Dat) (kk : List Str) : ∀ {l : List α} {x : α}, (∀ y ∈ l, g y = kk → r y = r x) → x ∈ l → g x = kk → dlookT (l.map fun y => (tS (g y), r y)) (kk.map Sum.inr) = some (r x)
  | y :: l, x, h, hx, e => by
    show (if isKs (tS (g y)) (kk.map Sum.inr) = true then some (r y) else dlookT (l.map fun y => (tS (g y), r y)) (kk.map Sum.inr)) = _
    rw [isKs_tS]
    by_cases hy : g y = kk
    · rw [if_pos (by simpa using hy), h y List.mem_cons_self hy]
    · rw [if_neg (by simpa using hy)]
      rcases List.mem_cons.mp hx with rfl | z
      · exact absurd e hy
      · exact dlookT_map g r kk (fun y hy => h y (List.mem_cons_of_mem _ hy)) z e
theorem dlookT_none {α : Type} (g : α → List Str) (r : α → Dat) (kk : List Str) : ∀ {l : List α}, (∀ y ∈ l, g y ≠ kk) → dlookT (l.map fun y => (tS (g y), r y)) (kk.map Sum.inr) = none
  | [], _ => rfl
  | y :: l, h => by
    show (if isKs (tS (g y)) (kk.map Sum.inr) = true then some (r y) else dlookT (l.map fun y => (tS (g y), r y)) (kk.map Sum.inr)) = _
    rw [isKs_tS, if_neg (by simpa using h y List.mem_cons_self)]
    exact dlookT_none g r kk fun y hy => h y (List.mem_cons_of_mem _ hy)
theorem dlookT_S (r : List Str → Dat) {ks : List (List Str)} {z : List Str} (h : z ∈ ks) : dlookT (ks.map fun k => (tS k, r k)) (z.map Sum.inr) = some (r z) := dlookT_map (g := id) r z (fun y _ e => by cases e; rfl) h rfl
theorem dlookT_Sn (r : List Str → Dat) {ks : List (List Str)} {z : List Str} (h : z ∉ ks) : dlookT (ks.map fun k => (tS k, r k)) (z.map Sum.inr) = none := dlookT_none (g := id) r z fun y hy e => h (by cases e; exact hy)
/-- one more key -/
theorem dputK_new {l : List (Dat × Dat)} {k : L2.Key} {d : Dat} (h : ∀ p ∈ l, ∃ k', p.1 = kD k' ∧ k' ≠ k) : dputK l k d = l ++ [(kD k, d)] := by
  unfold dputK
  rw [if_neg]
  intro e
  obtain ⟨p, hp, e⟩ := List.any_eq_true.mp e
  obtain ⟨k', e1, ne⟩ := h p hp
  rw [e1, isK_kD] at e
  exact ne (of_decide_eq_true e)
theorem dputT_new {l : List (Dat × Dat)} {k : List L2.Key} {d : Dat} (h : ∀ p ∈ l, ∃ k', p.1 = tK k' ∧ k' ≠ k) : dputT l k d = l ++ [(tK k, d)] := by
  unfold dputT
  rw [if_neg]
  intro e
  obtain ⟨p, hp, e⟩ := List.any_eq_true.mp e
  obtain ⟨k', e1, ne⟩ := h p hp
  rw [e1, isKs_tK] at e
  exact ne (of_decide_eq_true e)
theorem putsK {α : Type} (kf : α → L2.Key) (r : α → Dat) : ∀ (l : List α) (acc : List (Dat × Dat)), (∀ p ∈ acc, ∃ k', p.1 = kD k' ∧ k' ∉ l.map kf) → (l.map kf).Nodup → l.foldl (fun a x => dputK a (kf x) (r x)) acc = acc ++ l.map fun x => (kD (kf x), r x)
  | [], acc, _, _ => by simp
  | x :: l, acc, h, nd => by
    rw [List.map_cons, List.nodup_cons] at nd
    rw [List.foldl_cons, dputK_new fun p hp => by
      obtain ⟨k', e, ne⟩ := h p hp
      exact ⟨k', e, fun z => ne (by rw [z]; exact List.mem_cons_self)⟩]
    rw [putsK kf r l _ (fun p hp => ?_) nd.2]
    · simp
    · rcases List.mem_append.mp hp with hp | hp
      · obtain ⟨k', e, ne⟩ := h p hp
        exact ⟨k', e, fun z => ne (List.mem_cons_of_mem _ z)⟩
      · rw [List.mem_singleton.mp hp]
        exact ⟨_, rfl, nd.1⟩
theorem putsT {α : Type} (kf : α → List L2.Key) (r : α → Dat) : ∀ (l : List α) (acc : List (Dat × Dat)), (∀ p ∈ acc, ∃ k', p.1 = tK k' ∧ k' ∉ l.map kf) → (l.map kf).Nodup → l.foldl (fun a x => dputT a (kf x) (r x)) acc = acc ++ l.map fun x => (tK (kf x), r x)
  | [], acc, _, _ => by simp
  | x :: l, acc, h, nd => by
    rw [List.map_cons, List.nodup_cons] at nd
    rw [List.foldl_cons, dputT_new fun p hp => by
      obtain ⟨k', e, ne⟩ := h p hp
      exact ⟨k', e, fun z => ne (by rw [z]; exact List.mem_cons_self)⟩]
    rw [putsT kf r l _ (fun p hp => ?_) nd.2]
    · simp
    · rcases List.mem_append.mp hp with hp | hp
      · obtain ⟨k', e, ne⟩ := h p hp
        exact ⟨k', e, fun z => ne (List.mem_cons_of_mem _ z)⟩
      · rw [List.mem_singleton.mp hp]
        exact ⟨_, rfl, nd.1⟩
theorem filterAll {α : Type} (l : List α) : l.filter (fun _ => true) = l := List.filter_eq_self.mpr fun _ _ => rfl
theorem keptK_nd {kf : Dat → L2.Key} {r : Dat → Dat} {ds : List Dat} (nd : (ds.map kf).Nodup) : keptK (fun _ => true) kf r ds = ds.map fun d => (kD (kf d), r d) := by
  unfold keptK
  rw [filterAll, putsK kf r ds [] (fun p hp => absurd hp List.not_mem_nil) nd]
  rfl
theorem keptT_nd {kf : Dat → List L2.Key} {r : Dat → Dat} {ds : List Dat} (nd : (ds.map kf).Nodup) : keptT (fun _ => true) kf r ds = ds.map fun d => (tK (kf d), r d) := by
  unfold keptT
  rw [filterAll, putsT kf r ds [] (fun p hp => absurd hp List.not_mem_nil) nd]
  rfl
theorem keptT_ndF {b : Dat → Bool} {kf : Dat → List L2.Key} {r : Dat → Dat} {ds : List Dat} (nd : (ds.map kf).Nodup) : keptT b kf r ds = (ds.filter b).map fun d => (tK (kf d), r d) := by
  unfold keptT
  rw [putsT kf r _ [] (fun p hp => absurd hp List.not_mem_nil) (nd.sublist ((List.filter_sublist).map _))]
  rfl
def sOf : Dat → Str
  | .str x => x
  | _ => default
def ssOf : Dat → List Str
  | .tuple ds => ds.map sOf
  | .ftup ds => ds.map sOf
  | _ => []
theorem ssOf_tS (p : List Str) : ssOf (tS p) = p := by
  show (p.map Dat.str).map sOf = p
  rw [List.map_map]
  exact List.map_id _
def keyOf : Dat → L2.Key := fun d => .inr (sOf d)
def keysOf : Dat → List L2.Key := fun d => (ssOf d).map Sum.inr
theorem keyMap (ks : List Str) : (dS ks).map keyOf = ks.map Sum.inr := by
  rw [List.map_map]; rfl
theorem keysMap (ps : List (List Str)) : (ps.map tS).map keysOf = ps.map fun p => p.map Sum.inr := by
  rw [List.map_map]
  exact List.map_congr_left fun p _ => by show (ssOf (tS p)).map Sum.inr = _; rw [ssOf_tS]
theorem nodupMap {α β : Type} {f : α → β} (hf : ∀ a b, f a = f b → a = b) : ∀ {l : List α}, l.Nodup → (l.map f).Nodup
  | [], _ => .nil
  | a :: l, h => by
    rw [List.nodup_cons] at h
    rw [List.map_cons, List.nodup_cons]
    refine ⟨fun z => ?_, nodupMap hf h.2⟩
    obtain ⟨b, hb, e⟩ := List.mem_map.mp z
    exact h.1 (hf _ _ e ▸ hb)
theorem keyNd {ks : List Str} (h : ks.Nodup) : ((dS ks).map keyOf).Nodup := by
  rw [keyMap]
  exact nodupMap (fun a b e => Sum.inr.inj e) h
theorem keysNd {ps : List (List Str)} (h : ps.Nodup) : ((ps.map tS).map keysOf).Nodup := by
  rw [keysMap]
  exact nodupMap (fun a b e => (List.map_inj_right (fun a b z => Sum.inr.inj z)).mp e) h
/-- a dict by a comprehension over texts -/
theorem keptK_S {r : Dat → Dat} {ks : List Str} (nd : ks.Nodup) : keptK (fun _ => true) keyOf r (dS ks) = ks.map fun k => (.str k, r (.str k)) := by
  rw [keptK_nd (keyNd nd), List.map_map]; rfl
theorem keptT_S {r : Dat → Dat} {ps : List (List Str)} (nd : ps.Nodup) : keptT (fun _ => true) keysOf r (ps.map tS) = ps.map fun p => (tS p, r (tS p)) := by
  rw [keptT_nd (keysNd nd), List.map_map]
  refine List.map_congr_left fun p _ => ?_
  show (tK ((ssOf (tS p)).map Sum.inr), _) = _
  rw [ssOf_tS, tK_S]
theorem keptT_SF {b : List Str → Bool} {r : Dat → Dat} {ps : List (List Str)} (nd : ps.Nodup) : keptT (fun d => b (ssOf d)) keysOf r (ps.map tS) = (ps.filter b).map fun p => (tS p, r (tS p)) := by
  rw [keptT_ndF (keysNd nd), List.filter_map, List.map_map]
  have : ((fun d => b (ssOf d)) ∘ tS) = b := funext fun p => by show b (ssOf (tS p)) = b p; rw [ssOf_tS]
  rw [this]
  refine List.map_congr_left fun p _ => ?_
  show (tK ((ssOf (tS p)).map Sum.inr), _) = _
  rw [ssOf_tS, tK_S]
theorem atomsS {α : Type} (f : α → Str) (r : α → Dat) (l : List α) : Atoms (l.map fun k => (.str (f k), r k)) := fun p hp => by
  obtain ⟨k, _, rfl⟩ := List.mem_map.mp hp
  exact ⟨.inr (f k), rfl⟩
theorem atomsI {α : Type} (f : α → Int) (r : α → Dat) (l : List α) : Atoms (l.map fun k => (.int (f k), r k)) := fun p hp => by
  obtain ⟨k, _, rfl⟩ := List.mem_map.mp hp
  exact ⟨.inl (f k), rfl⟩
theorem tupsS {α : Type} (f : α → List Str) (r : α → Dat) {l : List α} (h : l ≠ []) : Tups (l.map fun k => (tS (f k), r k)) := ⟨by simpa using h, fun p hp => by
  obtain ⟨k, _, rfl⟩ := List.mem_map.mp hp
  exact ⟨(f k).map Sum.inr, (tK_S _).symm⟩⟩
theorem dputK_mD {f : Str → Int} {ks : List Str} {z : Str} {n : Int} (h : z ∈ ks) : dputK (ks.map fun k => (Dat.str k, Dat.int (f k))) (.inr z) (.int n) = ks.map fun k => (Dat.str k, Dat.int (if k = z then n else f k)) := by
  unfold dputK
  rw [if_pos, List.map_map]
  · refine List.map_congr_left fun k _ => ?_
    show (if isK (.str k) (.inr z) = true then _ else _) = _
    rw [isK_str]
    by_cases e : k = z
    · rw [if_pos (by simpa using e), if_pos e]
    · rw [if_neg (by simpa using e), if_neg e]
  · rw [List.any_map, List.any_eq_true]
    exact ⟨z, h, by show isK (.str z) (.inr z) = true; rw [isK_str]; simp⟩
section
variable {X : Cx} {δ : List Cell} {a e : Expr} {p pos : Pos} {Φ : Cell → List Cell → Prop} {as : List Dat}
/-- list(x) as one's own -/
theorem Ev.listOwn (ha : EvP X δ a (.tuple as)) (hk : ∀ q, Φ (.ow q (.d (.list as))) δ) (hm : X.mg "list" = none) (hg : Gl X "list" := by rfl) (he : starEach [a] X.env = (false, eval a X.env) :: starEach [] X.env := by rfl) :
    Ev X δ (.Call (.Name "list" p) [a] [] pos) Φ := fun σ G H m Q q => by
  refine PE.w (pe_callTy (T := "list") callW hg hm (by decide +kernel) paW (by decide) (by decide) he rfl) ((EvAP.cons ha .nil he) σ G H m _ fun vs G1 H1 r w ex => ?_)
  obtain ⟨v, rfl, r1⟩ := rpa1 r
  cases r1 with
  | @tup b xs _ ga ra =>
    have m1 := m.ext ex w
    refine CallR.w call_list_of ⟨b, xs, rfl, .inr (SqT.of (w.tupH ga)), fun l nl => ?_⟩
    obtain ⟨m2, f2⟩ := m1.newOw (u := .lst xs) (o := .d (.list as)) nl rfl (fun _ z => nomatch z) ⟨xs, upd_same, ra, m1.wd.none nl⟩
    exact q _ _ _ _ _ (hk l) m2 ((Ext.up ex _).trans f2)
end
end K94
end

/-! text WM -/
section
set_option Elab.async false
set_option linter.all false
set_option maxRecDepth 100000
set_option maxHeartbeats 4000000
set_option autoImplicit true
/-! names on the left, one of them in a cell -/
namespace K94
open PySem PySem.Spec PyProof.Rows L2
section
variable {X : Cx} {δ : List Cell} {a b c e : Expr} {Φ : Out → Prop} {pos : Pos}
theorem RunS.par2C {i j : Nat} {x y : Str} {px py pt pt2 : Pos} {kt k2 : Nat} (h : Ev X δ a fun r1 δ1 => Ev X δ1 b fun r2 δ2 => Φ (.nx ((δ2.set i r1).set j r2))) (hc : X.calm = true) (hN : X.N.Nodup) (hi : X.N[i]? = some x := by rfl) (hj : X.N[j]? = some y := by rfl)
    (hx : Loc X.env.scope x := by first | exact Or.inl rfl | exact Or.inr rfl) (hy : Loc X.env.scope y := by first | exact Or.inl rfl | exact Or.inr rfl)
    (hf : X.fn x = true ∨ X.env.scope.names.lookup x = some .local := by first | exact .inl rfl | exact .inr rfl) (hf2 : X.fn y = true ∨ X.env.scope.names.lookup y = some .local := by first | exact .inl rfl | exact .inr rfl)
    (as : (assignEach [.Name x px, .Name y py] X.env).map (·.2) = assign (.Name x px) X.env :: (assignEach [.Name y py] X.env).map (·.2) := by rfl) (as2 : (assignEach [.Name y py] X.env).map (·.2) = assign (.Name y py) X.env :: (assignEach [] X.env).map (·.2) := by rfl)
    (hn : (assignEach [.Name x px, .Name y py] X.env).length = 2 := by rfl) (hst : (assignEach [.Name x px, .Name y py] X.env).findIdx? (·.1) = none := by rfl)
    (hs : swapsWithSole [.Tuple [.Name x px, .Name y py] kt pt] (.Tuple [a, b] k2 pt2) pos.line X.env = pure false := by rfl) (hw : swappedStores [.Tuple [.Name x px, .Name y py] kt pt] (.Tuple [a, b] k2 pt2) X.env = pure none := by rfl)
    (h1 : (assignEach [.Tuple [.Name x px, .Name y py] kt pt] X.env).map (·.2) = [assign (.Tuple [.Name x px, .Name y py] kt pt) X.env] := by rfl)
    (he : starEach [a, b] X.env = (false, eval a X.env) :: starEach [b] X.env := by rfl) (he2 : starEach [b] X.env = (false, eval b X.env) :: starEach [] X.env := by rfl) :
    RunS X δ (.Assign [.Tuple [.Name x px, .Name y py] kt pt] (.Tuple [a, b] k2 pt2) pos) Φ := fun σ G H m D p => by
  refine PS.w (ps_asg (pe_tup (pa_cons peW (pa_cons peW pa_nil he2) he)) (pg_tup hc (pgs_cons (pg_name hN hi hx hf) (pgs_cons (pg_name hN hj hy hf2) pgs_nil as2) as) hn hst) hs hw h1)
    (h σ G H m _ fun r1 δ1 v G1 H1 q1 m1 f1 => q1 σ G1 H1 m1.tail _ fun r2 δ2 u G2 H2 q2 m2 f2 => ⟨(show (2 : Nat) ≤ sizeLine by decide), fun t nt => ?_⟩)
  have m3 := m1.frame m2 f2
  have ex := Ext.new (o := .tup [v, u]) m3.wd nt
  have w4 := m3.wd.new (o := .tup [v, u]) nt
  have m4 := m3.ext ex w4
  refine ⟨_, _, rfl, SqT.of (w4.tupH upd_same), rfl, v, [u], rfl, u, [], rfl, rfl, ?_⟩
  refine p.nx _ _ _ _ q2 ((m4.put (i + 1)).put j) (f1.trans ?_)
  have f3 := (Fr.consC (F := []) (F' := []) r1 δ1 (r2 :: δ2) f2).trans (Ext.up ex _)
  refine f3.less fun b hb => ?_
  rw [feet_cons, feet_cons]
  rcases feet_set hb with z | z
  · rcases feet_set z with z | z
    · exact List.mem_append_right _ (List.mem_append_right _ z)
    · exact List.mem_append_left _ z
  · exact List.mem_append_right _ (List.mem_append_left _ z)
theorem RunS.par3C {i j l : Nat} {x y z : Str} {px py pz pt pt2 : Pos} {kt k2 : Nat} (h : Ev X δ a fun r1 δ1 => Ev X δ1 b fun r2 δ2 => Ev X δ2 c fun r3 δ3 => Φ (.nx (((δ3.set i r1).set j r2).set l r3))) (hc : X.calm = true) (hN : X.N.Nodup) (hi : X.N[i]? = some x := by rfl) (hj : X.N[j]? = some y := by rfl) (hl : X.N[l]? = some z := by rfl)
    (hx : Loc X.env.scope x := by first | exact Or.inl rfl | exact Or.inr rfl) (hy : Loc X.env.scope y := by first | exact Or.inl rfl | exact Or.inr rfl) (hz : Loc X.env.scope z := by first | exact Or.inl rfl | exact Or.inr rfl)
    (hf : X.fn x = true ∨ X.env.scope.names.lookup x = some .local := by first | exact .inl rfl | exact .inr rfl) (hf2 : X.fn y = true ∨ X.env.scope.names.lookup y = some .local := by first | exact .inl rfl | exact .inr rfl) (hf3 : X.fn z = true ∨ X.env.scope.names.lookup z = some .local := by first | exact .inl rfl | exact .inr rfl)
    (as : (assignEach [.Name x px, .Name y py, .Name z pz] X.env).map (·.2) = assign (.Name x px) X.env :: (assignEach [.Name y py, .Name z pz] X.env).map (·.2) := by rfl) (as2 : (assignEach [.Name y py, .Name z pz] X.env).map (·.2) = assign (.Name y py) X.env :: (assignEach [.Name z pz] X.env).map (·.2) := by rfl) (as3 : (assignEach [.Name z pz] X.env).map (·.2) = assign (.Name z pz) X.env :: (assignEach [] X.env).map (·.2) := by rfl)
    (hn : (assignEach [.Name x px, .Name y py, .Name z pz] X.env).length = 3 := by rfl) (hst : (assignEach [.Name x px, .Name y py, .Name z pz] X.env).findIdx? (·.1) = none := by rfl)
    (hs : swapsWithSole [.Tuple [.Name x px, .Name y py, .Name z pz] kt pt] (.Tuple [a, b, c] k2 pt2) pos.line X.env = pure false := by rfl) (hw : swappedStores [.Tuple [.Name x px, .Name y py, .Name z pz] kt pt] (.Tuple [a, b, c] k2 pt2) X.env = pure none := by rfl)
    (h1 : (assignEach [.Tuple [.Name x px, .Name y py, .Name z pz] kt pt] X.env).map (·.2) = [assign (.Tuple [.Name x px, .Name y py, .Name z pz] kt pt) X.env] := by rfl)
    (he : starEach [a, b, c] X.env = (false, eval a X.env) :: starEach [b, c] X.env := by rfl) (he2 : starEach [b, c] X.env = (false, eval b X.env) :: starEach [c] X.env := by rfl) (he3 : starEach [c] X.env = (false, eval c X.env) :: starEach [] X.env := by rfl) :
    RunS X δ (.Assign [.Tuple [.Name x px, .Name y py, .Name z pz] kt pt] (.Tuple [a, b, c] k2 pt2) pos) Φ := fun σ G H m D p => by
  refine PS.w (ps_asg (pe_tup (pa_cons peW (pa_cons peW (pa_cons peW pa_nil he3) he2) he)) (pg_tup hc (pgs_cons (pg_name hN hi hx hf) (pgs_cons (pg_name hN hj hy hf2) (pgs_cons (pg_name hN hl hz hf3) pgs_nil as3) as2) as) hn hst) hs hw h1)
    (h σ G H m _ fun r1 δ1 v G1 H1 q1 m1 f1 => q1 σ G1 H1 m1.tail _ fun r2 δ2 u G2 H2 q2 m2 f2 => q2 σ G2 H2 m2.tail _ fun r3 δ3 t G3 H3 q3 m3 f3 => ⟨(show (3 : Nat) ≤ sizeLine by decide), fun tt nt => ?_⟩)
  have m23 := m2.frame m3 f3
  have f23 := Fr.consC (F := []) (F' := []) r2 δ2 (r3 :: δ3) f3
  have m5 := m1.frame (δ' := r2 :: r3 :: δ3) m23 (f2.trans f23)
  have ex := Ext.new (o := .tup [v, u, t]) m5.wd nt
  have w4 := m5.wd.new (o := .tup [v, u, t]) nt
  have m6 := m5.ext ex w4
  refine ⟨_, _, rfl, SqT.of (w4.tupH upd_same), rfl, v, [u, t], rfl, u, [t], rfl, t, [], rfl, rfl, ?_⟩
  refine p.nx _ _ _ _ q3 (((m6.put (i + 2)).put (j + 1)).put l) (f1.trans ?_)
  have f5 := (Fr.consC (F := []) (F' := []) r1 δ1 (r2 :: r3 :: δ3) (f2.trans f23)).trans (Ext.up ex _)
  refine f5.less fun b hb => ?_
  rw [feet_cons, feet_cons, feet_cons]
  rcases feet_set hb with z | z
  · rcases feet_set z with z | z
    · rcases feet_set z with z | z
      · exact List.mem_append_right _ (List.mem_append_right _ (List.mem_append_right _ z))
      · exact List.mem_append_left _ z
    · exact List.mem_append_right _ (List.mem_append_left _ z)
  · exact List.mem_append_right _ (List.mem_append_right _ (List.mem_append_left _ z))
end
section
variable {X : Cx} {scope : Scope} {s : Shared} {H : Hp} {C : Addr} {cl : List (Str × Addr)} {fp : List Addr}
def relS (scope sc : Scope) : Scope := relabel scope { (default : Env) with scope := sc }
theorem blkIn {N : List Str} {sc scope2 : Scope} {own : List (Str × Nat)} (h : blkC N (relS scope sc) scope2 own = true) (hN : X.N = N := by rfl) (hs : X.env.scope = sc := by rfl) : BlkOk (blkX X scope s H C cl fp).N (blkX X scope s H C cl fp).env.scope scope2 own := by
  subst hN hs
  exact blkOk_by (N := (blkX X scope s H C cl fp).N) (sc := (blkX X scope s H C cl fp).env.scope) h
end
end K94
end

/-! text WK -/
section
set_option Elab.async false
set_option autoImplicit false
set_option linter.all false
set_option maxRecDepth 100000
set_option maxHeartbeats 4000000
/-! a name set to a dict by a comprehension -/
namespace K94
open PySem PySem.Spec PyProof.Rows L2
section
variable {X : Cx} {δ : List Cell} {tg iter kx vx : Expr} {ifs : List Expr} {scope : Scope} {own : List (Str × Nat)} {pos : Pos} {ds : List Dat} {f : Dat → List Cell} {b : Dat → Bool} {r kd : Dat → Dat} {ps : List (Dat × Dat)}
theorem storeUse {i : Nat} {y : Str} {py : Pos} {pins : List (Addr × Obj)} {s' : Shared} {σ : SS} {H' : Hp} {D : Ends} {L C : Addr} {m : Str → Option Value} (hN : X.N.Nodup) (hy : X.N[i]? = some y) (hyl : X.env.scope.names.lookup y = some .local) (I' : Inv X pins σ H' s') (q : gName i (.ref L) σ H' D.nx) (hn : s'.heap.Ns C m) (f : FpOk X pins H' C) :
    compPost (model X.prog X.w) X.A X.xe (some (assign (.Name y py) X.env)) (fun _ s' => SP X pins D .next s') (.ref L) C (.ok .next) s' := by
  show wpAny _ _ (assign (.Name y py) X.env (.ref L)) _ _ _
  refine wpAny_assign_Name (store_ok2 (v := V.ref L) I' hN hy (.inl hyl) rfl (fun s2 I2 ⟨a, sb, ha⟩ => ?_) (.inr hyl))
  obtain ⟨f0, f1, f2, f3, f4, f5⟩ := f
  have haC : C ≠ a := by
    rcases ha with z | z
    · rw [z]; exact f1
    · exact fun e => f4 y a z e.symm
  refine ⟨m, hn.sameBut sb haC, fun h3 sb3 => ?_⟩
  exact ⟨_, H', I2.turned (t' := s2.toks) (fun b o hb e => (sb3.2 b hb).trans e) f0 f1 f3 f4 f5, q⟩
theorem ps_setDc {i : Nat} {y : Str} {py spos : Pos} {wi : TI} {g : TG} {tt : TT} {tk tv : TE} (hc : X.calm = true) (hN : X.N.Nodup) (hy : X.N[i]? = some y) (hyl : X.env.scope.names.lookup y = some .local)
    (hsw : swapsWith (.DictComp kx vx [⟨tg, iter, ifs, 0⟩] scope pos) (some (.Name y py)) spos.line X.env = pure true) (hi : PI X tg iter wi) (ok : BlkOk X.N X.env.scope scope own)
    (hg : Bk X scope fun X' => PG X' tg g) (ht : Bk X scope fun X' => PTs X' ifs tt) (hk : Bk X scope fun X' => PE X' kx tk) (he : Bk X scope fun X' => PE X' vx tv) (hs : ∀ x, foldedSetIterable iter X.env x = pure x := by intro _; rfl) :
    PS X (.Assign [.Name y py] (.DictComp kx vx [⟨tg, iter, ifs, 0⟩] scope pos) spos) (tAsg (tDc wi g tt tk tv (own.map (·.2))) (gName i)) := by
  refine ⟨fun pins s σ H D I h => ?_⟩
  rw [exec_Assign_Name_used _ _ _ _ hsw]
  refine wpAny_bind (wpAny_standAt (wpAny_bind ?_))
  show wpAny _ X.A (do let _ ← comprehension (.DictComp kx vx [⟨tg, iter, ifs, 0⟩] scope pos) scope X.env (firstIterPos [⟨tg, iter, ifs, 0⟩] pos) newDict false (eval iter X.env) (some (assign (.Name y py) X.env))) _ _ s
  have h : tDc wi g tt tk tv (own.map (·.2)) σ H (fun x H1 => gName i x σ H1 D.nx) := h
  exact wpAny_bind (thn (dc_core (Qf := fun _ s' => SP X pins D .next s') hc hN I hi ok hg ht hk he hs h fun L C s' m H' I' q hn f => storeUse hN hy hyl I' q hn f) fun _ s' hq => wpAny_pure (wpAny_pure hq))
theorem ps_setDcT {i : Nat} {y : Str} {py spos : Pos} {wi : TI} {g : TG} {tt : TT} {tk tv : TE} (hu : X.A.units + 1 < cLine) (hc : X.calm = true) (hN : X.N.Nodup) (hy : X.N[i]? = some y) (hyl : X.env.scope.names.lookup y = some .local)
    (hsw : swapsWith (.DictComp kx vx [⟨tg, iter, ifs, 0⟩] scope pos) (some (.Name y py)) spos.line X.env = pure true) (hi : PI X tg iter wi) (ok : BlkOk X.N X.env.scope scope own)
    (hg : Bk X scope fun X' => PG X' tg g) (ht : Bk X scope fun X' => PTs X' ifs tt) (hk : Bk X scope fun X' => PE X' kx tk) (he : Bk X scope fun X' => PE X' vx tv) (hs : ∀ x, foldedSetIterable iter X.env x = pure x := by intro _; rfl) :
    PS X (.Assign [.Name y py] (.DictComp kx vx [⟨tg, iter, ifs, 0⟩] scope pos) spos) (tAsg (tDcT wi g tt tk tv (own.map (·.2))) (gName i)) := by
  refine ⟨fun pins s σ H D I h => ?_⟩
  rw [exec_Assign_Name_used _ _ _ _ hsw]
  refine wpAny_bind (wpAny_standAt (wpAny_bind ?_))
  show wpAny _ X.A (do let _ ← comprehension (.DictComp kx vx [⟨tg, iter, ifs, 0⟩] scope pos) scope X.env (firstIterPos [⟨tg, iter, ifs, 0⟩] pos) newDict false (eval iter X.env) (some (assign (.Name y py) X.env))) _ _ s
  have h : tDcT wi g tt tk tv (own.map (·.2)) σ H (fun x H1 => gName i x σ H1 D.nx) := h
  exact wpAny_bind (thn (dcT_core (Qf := fun _ s' => SP X pins D .next s') hu hc hN I hi ok hg ht hk he hs h fun L C s' m H' I' q hn f => storeUse hN hy hyl I' q hn f) fun _ s' hq => wpAny_pure (wpAny_pure hq))
/-- one's own dict -/
theorem RunS.setDictK {i : Nat} {y : Str} {py spos : Pos} {Φ : Out → Prop} {kf : Dat → L2.Key} (hc : X.calm = true) (hN : X.N.Nodup) (ok : BlkOk X.N X.env.scope scope own) (hit : EvItP X δ tg iter ds) (ha : ∀ d ∈ ds, Bk X scope fun X' => AsDV X' (wipeC δ (own.map (·.2))) tg d (f d) (own.map (·.2)))
    (ht : ∀ d ∈ ds, Bk X scope fun X' => EvTs X' (f d) ifs (b d)) (hk : ∀ d ∈ ds, b d = true → KeyIs (kd d) (kf d) ∧ Bk X scope fun X' => EvP X' (f d) kx (kd d)) (he : ∀ d ∈ ds, b d = true → Bk X scope fun X' => EvP X' (f d) vx (r d)) (hl : ds.length ≤ 1000) (hp : ∀ q, Φ (.nx (δ.set i (.ow q (.d (.dict (keptK b kf r ds)))))))
    (hy : X.N[i]? = some y := by rfl) (hyl : X.env.scope.names.lookup y = some .local := by rfl) (hsw : swapsWith (.DictComp kx vx [⟨tg, iter, ifs, 0⟩] scope pos) (some (.Name y py)) spos.line X.env = pure true := by rfl) (hs : ∀ x, foldedSetIterable iter X.env x = pure x := by intro _; rfl) :
    RunS X δ (.Assign [.Name y py] (.DictComp kx vx [⟨tg, iter, ifs, 0⟩] scope pos) spos) Φ := fun σ G H m D p =>
  PS.w (ps_setDc hc hN hy hyl hsw piW ok (fun _ _ _ _ _ => pgB) (fun _ _ _ _ _ => ptB) (fun _ _ _ _ _ => peB) (fun _ _ _ _ _ => peB) hs) (dcKO ha ht hk he hl m (hit σ G H m) fun q xs G' H' hD rx gD w f nD => by
    obtain ⟨m2, f2⟩ := m.newCell (a := q) (o := .d (.dict (keptK b kf r ds))) ⟨xs, hD, rx, gD⟩ w f
    refine p.nx _ _ G' H' (hp q) (m2.put i) (f2.less fun x hx => ?_)
    rw [feet_cons]
    rcases feet_set hx with z | z
    · exact List.mem_append_right _ z
    · exact List.mem_append_left _ z)
/-- a dict with tuples for keys, over a known dict -/
theorem RunS.setDictTL {i : Nat} {y : Str} {py spos : Pos} {Φ : Out → Prop} {kf : Dat → List L2.Key} (g : Gx X) (hN : X.N.Nodup) (ok : BlkOk X.N X.env.scope scope own) (hv : EvV X δ iter (.dict ps)) (hps : Tups ps ∨ Atoms ps) (ha : ∀ d ∈ ps.map (·.1), Bk X scope fun X' => AsDV X' (wipeC δ (own.map (·.2))) tg d (f d) (own.map (·.2)))
    (ht : ∀ d ∈ ps.map (·.1), Bk X scope fun X' => EvTs X' (f d) ifs (b d)) (hk : ∀ d ∈ ps.map (·.1), b d = true → Bk X scope fun X' => EvP X' (f d) kx (tK (kf d))) (he : ∀ d ∈ ps.map (·.1), b d = true → Bk X scope fun X' => EvP X' (f d) vx (r d)) (hl : ps.length ≤ 1000) (ne : keptT b kf r (ps.map (·.1)) ≠ [])
    (hp : Φ (.nx (δ.set i (.im (.dict (keptT b kf r (ps.map (·.1)))))))) (hy : X.N[i]? = some y := by rfl) (hyl : X.env.scope.names.lookup y = some .local := by rfl) (hsw : swapsWith (.DictComp kx vx [⟨tg, iter, ifs, 0⟩] scope pos) (some (.Name y py)) spos.line X.env = pure true := by rfl) (hs : ∀ x, foldedSetIterable iter X.env x = pure x := by intro _; rfl) :
    RunS X δ (.Assign [.Name y py] (.DictComp kx vx [⟨tg, iter, ifs, 0⟩] scope pos) spos) Φ := fun σ G H m D p => by
  obtain ⟨a, u, ga, di, hit⟩ := hitLocked (tg := tg) hv hps m
  have sub : ∀ x ∈ feet (δ.set i (.im (.dict (keptT b kf r (ps.map (·.1)))))), x ∈ feet δ := fun x hx => (feet_set hx).resolve_right fun z => absurd (show x ∈ ([] : List Addr) from z) List.not_mem_nil
  have core : ∀ (H1 : Hp) (D1 : Ends), Mt X.K G H1 σ δ → HitAt X δ σ G H1 tg iter (ps.map (·.1)) → RunPost X.K (feet δ) G H1 Φ D1 → tAsg (tDcT (wpI X tg iter) (wgB X scope tg) (wtB X scope ifs) (weB X scope kx) (weB X scope vx) (own.map (·.2))) (gName i) D1 σ H1 := fun H1 D1 m1 hi r1 =>
    dcT ha ht hk he (by rw [List.length_map]; exact hl) ne m1 hi fun v G' H' rv w ex => r1.nx _ _ G' H' hp (((m1.ext ex w).im rv).put i) ((Ext.up ex _).less sub)
  have P := ps_setDcT (X := X) (kx := kx) (vx := vx) (tg := tg) (iter := iter) (ifs := ifs) (pos := pos) (i := i) (spos := spos) (py := py) (by have := g.hu; omega) g.calm hN hy hyl hsw piW ok (fun _ _ _ _ _ => pgB) (fun _ _ _ _ _ => ptB) (fun _ _ _ _ _ => peB) (fun _ _ _ _ _ => peB) hs
  rcases m.wd.sub a u ga with hH | ⟨_, o, hH⟩
  · refine PS.w (ps_lock P) ⟨a, u, hH, dctMut di, fun od => ?_⟩
    have m1 : Mt X.K G (upd H a (.frz od u)) σ δ := m.lockD ga di
    have off : a ∉ feet δ := fun hm => by have := m.none a hm; rw [ga] at this; cases this
    have at_ : ∀ {F' : List Addr} {G' H' : Hp}, Fr (feet δ) G (upd H a (.frz od u)) F' G' H' → H' a = some (.frz od u) := fun f => f.hh a _ upd_same off
    exact core _ _ m1 (hit _ od m1 upd_same) ⟨fun δ' σ' G' H' k m' f => ⟨at_ f, p.nx δ' σ' G' _ k (m'.unlockD (f.gg _ _ ga) di) (Fr.unlockD hH f)⟩, fun δ' σ' G' H' k m' f => ⟨at_ f, p.bk δ' σ' G' _ k (m'.unlockD (f.gg _ _ ga) di) (Fr.unlockD hH f)⟩,
      fun δ' σ' G' H' k m' f => ⟨at_ f, p.ct δ' σ' G' _ k (m'.unlockD (f.gg _ _ ga) di) (Fr.unlockD hH f)⟩, fun rr δ' v σ' G' H' k m' f => ⟨at_ f, p.rt rr δ' v σ' G' _ k (m'.unlockD (f.gg _ _ ga) di) (Fr.unlockD hH f)⟩⟩
  · exact PS.w P (core H D m (hit H o m hH) p)
end
end K94
end

/-! text WA -/
section
set_option Elab.async false
set_option linter.all false
set_option maxRecDepth 100000
set_option maxHeartbeats 4000000
set_option autoImplicit true
/-! the program's text; its first functions -/
namespace K94
open PySem PySem.Spec PyProof.Rows L2

/-- a def of the text stands -/
def Stands (K : PySem.W.Frag) (mg : Str → Option Value) (x : Str) (st : Stmt) : Prop := ∃ f fd, FunD K x x (defArgs st) (defBody st) (defScope st) [] [] f fd ∧ mg x = some (.ref f)
/-- what the program finds about it -/
structure Bs (K : PySem.W.Frag) (mg : Str → Option Value) : Prop where
  sm : ∃ o, K.lookup sysModules = some o ∧ o.cls = .type "dict"
  free : ∀ x ∈ (["all", "any", "sum", "max", "min", "abs", "int", "len", "tuple", "list", "dict", "set", "str", "sorted", "repr", "range", "enumerate", "zip", "isinstance"] : List Str), mg x = none
theorem Bs.all {K : PySem.W.Frag} {mg : Str → Option Value} (B : Bs K mg) : mg "all" = none := B.free _ (by decide)
section
variable {P : Program} {w : World} {K : PySem.W.Frag} {mg : Str → Option Value} {base : Heap} {x : Str} {st : Stmt} {N ps : List Str} {k : Nat}
abbrev CxD (P : Program) (w : World) (K : PySem.W.Frag) (mg : Str → Option Value) (base : Heap) (N : List Str) (x : Str) (st : Stmt) (f : Addr) (cdv : Value) (A : Around) (outer : List Env) (s : Shared) (H : Hp) : Cx := cxOf CX0 P w K mg base N x (defScope st) f cdv A outer s H Eno
def BindN (x : Str) (st : Stmt) (ps : List Str) : Prop := ∀ (kV doc pm : Value) (an : Option Addr) (cdv ct : Value) (us : List Value), us.length = ps.length → bindArgs (PySem.W.fnOf x x (defArgs st) (defBody st) (defScope st) .none kV doc pm an cdv ct) ⟨us, []⟩ = pure (ps.zip us)
theorem Has.pur {R : List Dat → Dat → Prop} (F : Stands K mg x st) (B : Bs K mg) (S : FnScope N ps (defScope st)) (hb : BindN x st ps) (many : ∀ ds d, R ds d → ds.length = ps.length)
    (h : ∀ (ds : List Dat) (d : Dat), R ds d → ∀ (f : Addr) (cdv : Value) (A : Around) (outer : List Env) (s : Shared) (H : Hp), Gx (CxD P w K mg base N x st f cdv A outer s H) → Room k (CxD P w K mg base N x st f cdv A outer s H).A →
      Run (CxD P w K mg base N x st f cdv A outer s H) (entry N (ds.map Cell.im)) (defBody st) (PurOut d)) : Has P w K mg base (k + 1) x (PurSp K R) := by
  obtain ⟨f, fd, F, hm⟩ := F
  exact ⟨f, fd, ps, FnG.pur F S B.sm many fun ds d hR cdv A outer s H g hr => h ds d hR f cdv A outer s H g hr, hm, F.kp, F.bindsN hb⟩
theorem Has.bor {R : Ow → List Dat → (Dat → Ow → Prop) → Prop} (F : Stands K mg x st) (B : Bs K mg) (S : FnScope N ps (defScope st)) (hb : BindN x st ps) (many : ∀ o ds Φ, R o ds Φ → ds.length + 1 = ps.length)
    (h : ∀ (a : Addr) (o : Ow) (ds : List Dat) (Φ : Dat → Ow → Prop), R o ds Φ → ∀ (f : Addr) (cdv : Value) (A : Around) (outer : List Env) (s : Shared) (H : Hp), Gx (CxD P w K mg base N x st f cdv A outer s H) → Room k (CxD P w K mg base N x st f cdv A outer s H).A →
      Run (CxD P w K mg base N x st f cdv A outer s H) (entry N (.ow a o :: ds.map Cell.im)) (defBody st) (BorOut a o Φ)) : Has P w K mg base (k + 1) x (BorSp K R) := by
  obtain ⟨f, fd, F, hm⟩ := F
  exact ⟨f, fd, ps, FnG.bor F S B.sm many fun a o ds Φ hR cdv A outer s H g hr => h a o ds Φ hR f cdv A outer s H g hr, hm, F.kp, F.bindsN hb⟩
theorem Has.new {R : List Dat → (Addr → Ow → Prop) → Prop} (F : Stands K mg x st) (B : Bs K mg) (S : FnScope N ps (defScope st)) (hb : BindN x st ps) (many : ∀ ds d, R ds d → ds.length = ps.length)
    (h : ∀ (ds : List Dat) (Φ : Addr → Ow → Prop), R ds Φ → ∀ (f : Addr) (cdv : Value) (A : Around) (outer : List Env) (s : Shared) (H : Hp), Gx (CxD P w K mg base N x st f cdv A outer s H) → Room k (CxD P w K mg base N x st f cdv A outer s H).A →
      Run (CxD P w K mg base N x st f cdv A outer s H) (entry N (ds.map Cell.im)) (defBody st) (NewOut Φ)) : Has P w K mg base (k + 1) x (NewSp K R) := by
  obtain ⟨f, fd, F, hm⟩ := F
  exact ⟨f, fd, ps, FnG.new F S B.sm many fun ds d hR cdv A outer s H g hr => h ds d hR f cdv A outer s H g hr, hm, F.kp, F.bindsN hb⟩

/-! ### within -/
theorem keptAll (r : Dat → Dat) (ds : List Dat) : keptD (fun _ => true) r ds = ds.map r := by
  unfold keptD
  rw [List.filter_eq_self.mpr fun _ _ => rfl]
def rWithin : List Dat → Dat → Prop := fun ds d => ∃ ps os : List Str, (ds = [tS ps, tS os] ∨ ds = [lS ps, tS os]) ∧ ps.length ≤ 1000 ∧ d = .bool (ps.all fun k => decide (k ∈ os))
def nWithin : List Str := ["part", "other", "kind"]
theorem scWithin : FnScope nWithin ["part", "other"] (defScope (top 2)) := ⟨rfl, rfl, rfl, by decide +kernel, rfl, by decide +kernel, by decide +kernel⟩
theorem okWithin (B : Bs K mg) (F : Stands K mg "within" (top 2)) : Has P w K mg base 1 "within" (PurSp K rWithin) := by
  refine Has.pur F B scWithin (fun _ _ _ _ _ _ us hl => match us, hl with | [_, _], _ => rfl) (fun ds d ⟨ps, os, h, _⟩ => by rcases h with rfl | rfl <;> rfl) fun ds d ⟨ps, os, hds, hl, hd⟩ f cdv A outer s H g hr => ?_
  subst hd
  have e : Dat.list (keptD (fun _ => true) (fun d => .bool (decide (sOf d ∈ os))) (dS ps)) = .list ((ps.map fun k => decide (k ∈ os)).map Dat.bool) := by
    rw [keptAll, List.map_map, List.map_map]; rfl
  rcases hds with rfl | rfl
  · refine Run.one ?_
    refine RunS.retP (d := .bool ((ps.map fun k => decide (k ∈ os)).all id)) ?_ ?_
    · refine EvP.callB (.cons (EvP.cast ?_ e) .nil) (CallD.all g) B.all
      refine EvP.comp (own := [("kind", 2)]) (b := fun _ => true) (r := fun d => .bool (decide (sOf d ∈ os))) (f := fun d => [.im (tS ps), .im (tS os), .im d]) rfl scWithin.nd (blkOk_by (N := nWithin) (sc := defScope (top 2)) (by decide +kernel)) (.tup (.var (i := 0) rfl)) (fun d hd s H C cl fp => AsDV.name (i := 2) scWithin.nd) (fun d hd s H C cl fp => rfl) (fun d hd _ s H C cl fp => ?_) (by simpa using hl)
      obtain ⟨k, _, rfl⟩ := List.mem_map.mp hd
      exact EvP.cmp (.var (i := 2) rfl) (.var (i := 1) rfl) Cmp2.inTS
    · show Cell.im _ = Cell.im _
      rw [List.all_map]; rfl
  · refine Run.one ?_
    refine RunS.retP (d := .bool ((ps.map fun k => decide (k ∈ os)).all id)) ?_ ?_
    · refine EvP.callB (.cons (EvP.cast ?_ e) .nil) (CallD.all g) B.all
      refine EvP.comp (own := [("kind", 2)]) (b := fun _ => true) (r := fun d => .bool (decide (sOf d ∈ os))) (f := fun d => [.im (lS ps), .im (tS os), .im d]) rfl scWithin.nd (blkOk_by (N := nWithin) (sc := defScope (top 2)) (by decide +kernel)) (.list (.var (i := 0) rfl)) (fun d hd s H C cl fp => AsDV.name (i := 2) scWithin.nd) (fun d hd s H C cl fp => rfl) (fun d hd _ s H C cl fp => ?_) (by simpa using hl)
      obtain ⟨k, _, rfl⟩ := List.mem_map.mp hd
      exact EvP.cmp (.var (i := 2) rfl) (.var (i := 1) rfl) Cmp2.inTS
    · show Cell.im _ = Cell.im _
      rw [List.all_map]; rfl
end
end K94
end

/-! text WB -/
section
set_option Elab.async false
set_option linter.all false
set_option maxRecDepth 100000
set_option maxHeartbeats 4000000
set_option autoImplicit true
/-! what ends a set begins: the kinds ahead -/
namespace K94
open PySem PySem.Spec PyProof.Rows L2

structure Hs where
  ks : List Str
  cs : List (List Str)
abbrev cD (c : List Str) : Dat := .ftup (dS c)
def Hs.dat (h : Hs) : Dat := .tuple [tS h.ks, .tuple (h.cs.map cD)]
structure Small (h : Hs) : Prop where
  ks : h.ks.length ≤ 6
  cs : h.cs.length ≤ 8
  c : ∀ c ∈ h.cs, c.length ≤ 6
theorem keptS (b : Str → Bool) (r : Dat → Dat) (g : Str → Dat) (hr : ∀ s, r (.str s) = g s) (ks : List Str) : keptD (fun d => b (sOf d)) r (dS ks) = (ks.filter b).map g := by
  unfold keptD
  rw [List.filter_map, List.map_map]
  exact List.map_congr_left fun s _ => hr s
theorem cutTo (xs : List Dat) {j : Nat} (h : j ≤ xs.length) : cutD xs Option.none (some (j : Int)) = xs.take j := by
  have e1 : HT.sIx xs.length 0 Option.none = 0 := by simp [HT.sIx]
  have e2 : HT.sIx xs.length xs.length (some (j : Int)) = j := by
    simp only [HT.sIx]
    split <;> omega
  unfold cutD
  rw [e1, e2]; simp
theorem cutFrom (xs : List Dat) {j : Nat} (h : j ≤ xs.length) : cutD xs (some (j : Int)) Option.none = xs.drop j := by
  have e1 : HT.sIx xs.length xs.length Option.none = xs.length := by simp [HT.sIx]
  have e2 : HT.sIx xs.length 0 (some (j : Int)) = j := by
    simp only [HT.sIx]
    split <;> omega
  unfold cutD
  rw [e1, e2]
  exact List.take_of_length_le (by rw [List.length_drop]; exact Nat.le_refl _)
theorem atI0 {α : Type} {a : α} {l : List α} : atI (a :: l) 0 = some a := by
  have : ixN (a :: l).length 0 = some 0 := ixN_pos (j := 0) (by simp)
  unfold atI
  rw [this]; rfl
theorem atI1 {α : Type} {a b : α} {l : List α} : atI (a :: b :: l) 1 = some b := by
  have : ixN (a :: b :: l).length 1 = some 1 := ixN_pos (j := 1) (by simp)
  unfold atI
  rw [this]; rfl

/-! ### kinds_ahead -/
def before (k : Str) (c : List Str) : List Str := c.take (c.idxOf k)
def aheadStep (k : Str) (found c : List Str) : List Str := if k ∈ c then found ++ (before k c).filter (fun o => !decide (o ∈ found)) else found
def kindsAhead (cs : List (List Str)) (k : Str) : List Str := cs.foldl (aheadStep k) []
theorem foldTake {α β : Type} (f : β → α → β) (b : β) {l : List α} {j : Nat} {x : α} (h : l[j]? = some x) : (l.take (j + 1)).foldl f b = f ((l.take j).foldl f b) x := by
  rw [List.take_add_one, h, Option.toList_some, List.foldl_append]; rfl
theorem length_aheadStep (k : Str) (found c : List Str) : (aheadStep k found c).length ≤ found.length + c.length := by
  unfold aheadStep
  split
  · rw [List.length_append]
    have h1 := List.length_filter_le (fun o => !decide (o ∈ found)) (before k c)
    have h2 : (before k c).length ≤ c.length := by unfold before; rw [List.length_take]; exact Nat.min_le_right _ _
    omega
  · omega
theorem length_ahead (k : Str) : ∀ (cs : List (List Str)) (f : List Str), (∀ c ∈ cs, c.length ≤ 6) → (cs.foldl (aheadStep k) f).length ≤ f.length + 6 * cs.length
  | [], f, _ => by simp
  | c :: cs, f, h => by
    have h1 := length_ahead k cs (aheadStep k f c) fun c' hc => h c' (List.mem_cons_of_mem _ hc)
    have h2 := length_aheadStep k f c
    have h3 := h c List.mem_cons_self
    rw [List.foldl_cons, List.length_cons]
    omega
section
variable {P : Program} {w : World} {K : PySem.W.Frag} {mg : Str → Option Value} {base : Heap} {k : Nat}
def rAhead : List Dat → Dat → Prop := fun ds d => ∃ (h : Hs) (z : Str), Small h ∧ ds = [h.dat, .str z] ∧ d = lS (kindsAhead h.cs z)
def nAhead : List Str := ["house", "kind", "found", "call", "other"]
theorem scAhead : FnScope nAhead ["house", "kind"] (defScope (top 3)) := ⟨rfl, rfl, rfl, by decide +kernel, rfl, by decide +kernel, by decide +kernel⟩
theorem okAhead (B : Bs K mg) (F : Stands K mg "kinds_ahead" (top 3)) : Has P w K mg base 1 "kinds_ahead" (PurSp K rAhead) := by
  refine Has.pur F B scAhead (fun _ _ _ _ _ _ us hl => match us, hl with | [_, _], _ => rfl) (fun ds d ⟨h, z, _, e, _⟩ => by rw [e]; rfl) fun ds d ⟨h, z, sm, hds, hd⟩ f cdv A outer s H g hr => ?_
  subst hds hd
  have nd := scAhead.nd
  refine Run.cons (RunS.set (i := 2) (Ev.newL (.nil ⟨Nat.zero_le _, fun p => ?_⟩)) nd)
  refine Run.cons (RunS.for_ ((EvItP.tup (EvP.ix (.var (i := 0) rfl) .int (Ix2.tup atI1))).i ?_) rfl)
  refine ⟨fun j δ' => ∃ x, δ' = [.im h.dat, .im (.str z), .ow p (.d (lS ((h.cs.take j).foldl (aheadStep z) []))), x, .no], ⟨_, rfl⟩, fun j d δ' hj ⟨x, e⟩ => ?_, fun δ' ⟨x, e⟩ => ?_⟩
  · subst e
    rw [List.getElem?_map] at hj
    obtain ⟨c, hc, rfl⟩ := Option.map_eq_some_iff.mp hj
    refine ⟨_, AsD.name (i := 3) nd, ?_⟩
    refine Run.one (RunS.if_ (EvTP.t (EvTP.cmp (.var (i := 1) rfl) (.var (i := 3) rfl) Cmp2.inFS) ?_))
    have len := length_ahead z (h.cs.take j) [] fun c' hc' => sm.c c' (List.mem_of_mem_take hc')
    have len2 : (h.cs.take j).length ≤ 8 := Nat.le_trans (by rw [List.length_take]; exact Nat.min_le_right _ _) sm.cs
    have len3 := sm.c c (List.mem_of_getElem? hc)
    have next := foldTake (aheadStep z) [] hc
    split
    · rename_i hm
      have hm := of_decide_eq_true hm
      have lt : c.idxOf z < c.length := List.idxOf_lt_length_iff.mpr hm
      refine Run.one (RunS.expr (Ev.extend (i := 2) (q := p) (EvP.i (EvP.comp (own := [("other", 4)]) (ds := dS (before z c)) (b := fun d => !decide (sOf d ∈ (h.cs.take j).foldl (aheadStep z) [])) (r := id) (f := fun d => [.im h.dat, .im (.str z), .ow p (.d (lS ((h.cs.take j).foldl (aheadStep z) []))), .im (cD c), .im d]) rfl nd (blkOk_by (N := nAhead) (sc := defScope (top 3)) (by decide +kernel)) ?_ ?_ ?_ ?_ ?_) ?_) ⟨_, rfl⟩))
      · refine .tup (EvP.cast (EvP.slice (.var (i := 3) rfl) EvOP.none_ (EvOP.some_ (EvP.index (.var (i := 3) rfl) (.var (i := 1) rfl) (j := c.idxOf z) ?_ ?_)) (Sl2.ftup ?_)) ?_)
        · rw [List.getElem?_eq_getElem lt, List.getElem_idxOf lt]
        · intro m hm2 e
          have : c.idxOf z ≤ m := by
            obtain ⟨hl, e2⟩ := List.getElem?_eq_some_iff.mp e
            exact Nat.not_lt.mp fun _ => by
              have := List.not_of_lt_findIdx (xs := c) (p := (· == z)) (i := m) (by exact hm2)
              simp [e2] at this
          omega
        · intro ⟨_, e⟩
          simp only [HT.sIx, List.length_map] at e
          split at e <;> omega
        · rw [cutTo _ (by rw [List.length_map]; omega), ← List.map_take]; rfl
      · exact fun d hd s H C cl fp => AsDV.name (i := 4) nd
      · intro d hd s H C cl fp
        obtain ⟨o, _, rfl⟩ := List.mem_map.mp hd
        exact EvTP.readOwn (i := 2) rfl rfl (EvTP.cmp (.var (i := 4) rfl) (.var (i := 2) rfl) Cmp2.notInLS)
      · intro d hd _ s H C cl fp
        exact .var (i := 4) rfl
      · rw [List.length_map]
        have : (before z c).length ≤ c.length := by unfold before; rw [List.length_take]; exact Nat.min_le_right _ _
        omega
      · have e : keptD (fun d => !decide (sOf d ∈ (h.cs.take j).foldl (aheadStep z) [])) id (dS (before z c)) = dS ((before z c).filter fun o => !decide (o ∈ (h.cs.take j).foldl (aheadStep z) [])) := keptS (fun o => !decide (o ∈ (h.cs.take j).foldl (aheadStep z) [])) id Dat.str (fun _ => rfl) _
        have hb : (before z c).length ≤ c.length := by unfold before; rw [List.length_take]; exact Nat.min_le_right _ _
        have hf := List.length_filter_le (fun o => !decide (o ∈ (h.cs.take j).foldl (aheadStep z) [])) (before z c)
        refine ⟨dS ((h.cs.take j).foldl (aheadStep z) []), _, rfl, rfl, ?_, ?_⟩
        · rw [e, List.length_map, List.length_map]
          simp only [List.length_nil] at len
          omega
        · refine ⟨.im (cD c), ?_⟩
          rw [next, e]
          unfold aheadStep
          rw [if_pos hm, ← List.map_append]
          rfl
    · rename_i hm
      have hm : ¬ z ∈ c := fun q => hm (decide_eq_true q)
      refine Run.nil ⟨.im (cD c), ?_⟩
      rw [next]
      unfold aheadStep
      rw [if_neg hm]
      rfl
  · subst e
    rw [List.length_map, List.take_length]
    refine Run.one (RunS.ret (Ev.giveVar (i := 2) rfl rfl))
end
end K94
end

/-! text WC -/
section
set_option Elab.async false
set_option linter.all false
set_option maxRecDepth 100000
set_option maxHeartbeats 4000000
set_option autoImplicit true
/-! what ends a set begins: the least ones, all of them, counts -/
namespace K94
open PySem PySem.Spec PyProof.Rows L2

theorem nodupLen {α : Type} [BEq α] [LawfulBEq α] : ∀ {l m : List α}, l.Nodup → (∀ x ∈ l, x ∈ m) → l.length ≤ m.length
  | [], _, _, _ => Nat.zero_le _
  | a :: l, m, nd, s => by
    rw [List.nodup_cons] at nd
    have h := nodupLen (m := m.erase a) nd.2 fun x hx => (List.mem_erase_of_ne (fun e : x = a => nd.1 (e ▸ hx))).mpr (s x (List.mem_cons_of_mem _ hx))
    have ha := s a List.mem_cons_self
    have := List.length_erase_of_mem ha
    have : 0 < m.length := List.length_pos_of_mem ha
    rw [List.length_cons]
    omega
structure LeastB (h : Hs) (ps q : List Str) : Prop where
  flt : h.ks.filter (fun k => decide (k ∈ q)) = q
  has : ∀ k ∈ ps, k ∈ q
  cl : ∀ k ∈ q, ∀ j ∈ kindsAhead h.cs k, j ∈ q
  least : ∀ S : List Str, (∀ k ∈ ps, k ∈ S) → (∀ k ∈ S, ∀ j ∈ kindsAhead h.cs k, j ∈ S) → ∀ k ∈ q, k ∈ S
theorem cut2 {α : Type} (l : List α) : l = [] ∨ ∃ m z, l = m ++ [z] := by
  rcases List.eq_nil_or_concat l with h | ⟨m, z, h⟩
  · exact .inl h
  · exact .inr ⟨m, z, by rw [h, List.concat_eq_append]⟩
section
variable {P : Program} {w : World} {K : PySem.W.Frag} {mg : Str → Option Value} {base : Heap} {k : Nat}
/-! ### least_beginning -/
def rLeast : List Dat → Dat → Prop := fun ds d => ∃ (h : Hs) (ps q : List Str), Small h ∧ LeastB h ps q ∧ ps.length ≤ 6 ∧ ds = [h.dat, tS ps] ∧ d = tS q
def nLeast : List Str := ["house", "part", "found", "waiting", "kind"]
theorem scLeast : FnScope nLeast ["house", "part"] (defScope (top 4)) := ⟨rfl, rfl, rfl, by decide +kernel, rfl, by decide +kernel, by decide +kernel⟩
theorem okLeast (B : Bs K mg) (F : Stands K mg "least_beginning" (top 4)) (ah : Has P w K mg base 1 "kinds_ahead" (PurSp K rAhead)) : Has P w K mg base 2 "least_beginning" (PurSp K rLeast) := by
  refine Has.pur F B scLeast (fun _ _ _ _ _ _ us hl => match us, hl with | [_, _], _ => rfl) (fun ds d ⟨h, z, _, _, _, _, e, _⟩ => by rw [e]; rfl) fun ds d ⟨h, ps, q, sm, lb, lps, hds, hd⟩ f cdv A outer s H g hr => ?_
  subst hds hd
  have nd := scLeast.nd
  have lq : q.length ≤ 6 := by rw [← lb.flt]; exact Nat.le_trans (List.length_filter_le _ _) sm.ks
  refine Run.cons (RunS.par2C (i := 2) (j := 3) (Ev.newL (.nil ⟨Nat.zero_le _, fun p => Ev.listOwn (.var (i := 1) rfl) (fun r => ?_) (B.free _ (by decide))⟩)) rfl nd)
  refine Run.cons (RunS.while_ (fun n δ' => ∃ fs ws x, δ' = [.im h.dat, .im (tS ps), .ow p (.d (lS fs)), .ow r (.d (lS ws)), x] ∧ fs.Nodup ∧ (∀ k ∈ fs, k ∈ q) ∧ (∀ k ∈ ws, k ∈ q) ∧ (∀ k ∈ ps, k ∈ fs ∨ k ∈ ws) ∧ (∀ k ∈ fs, ∀ j ∈ kindsAhead h.cs k, j ∈ fs ∨ j ∈ ws) ∧ ws.length ≤ 6 + 48 * fs.length ∧ n = (6 - fs.length) * 100 + ws.length)
    (600 + ps.length) ⟨[], ps, .no, rfl, .nil, fun k hk => absurd hk List.not_mem_nil, lb.has, fun k hk => .inr hk, fun k hk => absurd hk List.not_mem_nil, by simpa using lps, rfl⟩ ?_)
  rintro n δ' ⟨fs, ws, x, rfl, nf, f1, f2, f3, f4, f5, f6⟩
  have lf : fs.length ≤ 6 := Nat.le_trans (nodupLen nf f1) lq
  refine EvTP.t (c := !(dS ws).isEmpty) (EvTP.readOwn (i := 3) rfl rfl (EvTP.cmp (.var (i := 3) rfl) (.lst .nil) (Cmp2.neNil g))) ?_
  rcases cut2 ws with rfl | ⟨ws', z, rfl⟩
  · rw [if_neg (by simp [dS])]
    have same : ∀ k, k ∈ fs ↔ k ∈ q := fun k => ⟨f1 k, lb.least fs (fun k hk => (f3 k hk).resolve_right List.not_mem_nil) (fun k hk j hj => (f4 k hk j hj).resolve_right List.not_mem_nil) k⟩
    refine Run.one (RunS.retP (d := tS q) (EvP.callT (.cons (EvP.cast (EvP.comp (own := [("kind", 4)]) (ds := dS h.ks) (b := fun d => decide (sOf d ∈ fs)) (r := id) (f := fun d => [.im h.dat, .im (tS ps), .ow p (.d (lS fs)), .ow r (.d (lS [])), .im d]) rfl nd (blkOk_by (N := nLeast) (sc := defScope (top 4)) (by decide +kernel))
      (.tup (EvP.ix (.var (i := 0) rfl) .int (Ix2.tup atI0))) (fun d hd s H C cl fp => AsDV.name (i := 4) nd) (fun d hd s H C cl fp => ?_) (fun d hd _ s H C cl fp => .var (i := 4) rfl) ?_) (d' := lS q) ?_) .nil) CallD.tupL (B.free _ (by decide))) ?_)
    · obtain ⟨o, _, rfl⟩ := List.mem_map.mp hd
      exact EvTP.readOwn (i := 2) rfl rfl (EvTP.cmp (.var (i := 4) rfl) (.var (i := 2) rfl) Cmp2.inLS)
    · rw [List.length_map]; have := sm.ks; omega
    · rw [keptS (fun o => decide (o ∈ fs)) id Dat.str (fun _ => rfl)]
      have : h.ks.filter (fun o => decide (o ∈ fs)) = q := by
        refine Eq.trans ?_ lb.flt
        exact List.filter_congr fun k _ => decide_eq_decide.mpr (same k)
      rw [this]
    · exact rfl
  · rw [if_pos (by simp [dS])]
    have ez : dS (ws' ++ [z]) = dS ws' ++ [.str z] := List.map_append
    rw [List.length_append] at f5 f6
    simp only [List.length_singleton] at f5 f6
    have hz := f2 z (by simp)
    have hw : ∀ k ∈ ws', k ∈ q := fun k hk => f2 k (List.mem_append_left _ hk)
    refine Run.cons (RunS.set (i := 4) (Ev.pop (i := 3) (q := r) (as := dS ws') (d := .str z) (congrArg (fun z => some (Cell.ow r (.d (.list z)))) ez) ?_) nd)
    refine Run.one (RunS.if_ (EvTP.t (c := !decide (z ∈ fs)) (EvTP.readOwn (i := 2) rfl rfl (EvTP.cmp (.var (i := 4) rfl) (.var (i := 2) rfl) Cmp2.notInLS)) ?_))
    by_cases hm : z ∈ fs
    · rw [if_neg (by simpa using hm)]
      refine Run.nil ⟨_, by rw [f6]; exact Nat.add_lt_add_left (Nat.lt_succ_self _) _, fs, ws', .im (.str z), rfl, nf, f1, hw, fun k hk => ?_, fun k hk j hj => ?_, by omega, rfl⟩
      · rcases f3 k hk with h | h
        · exact .inl h
        · rcases List.mem_append.mp h with h | h
          · exact .inr h
          · rw [List.mem_singleton.mp h]; exact .inl hm
      · rcases f4 k hk j hj with h | h
        · exact .inl h
        · rcases List.mem_append.mp h with h | h
          · exact .inr h
          · rw [List.mem_singleton.mp h]; exact .inl hm
    · rw [if_pos (by simpa using hm)]
      have nf2 : (fs ++ [z]).Nodup := List.nodup_append.mpr ⟨nf, by simp, fun a ha b hb => by rw [List.mem_singleton.mp hb]; exact fun e => hm (e ▸ ha)⟩
      have f12 : ∀ k ∈ fs ++ [z], k ∈ q := fun k hk => (List.mem_append.mp hk).elim (f1 k) fun h => by rw [List.mem_singleton.mp h]; exact hz
      have lf2 := Nat.le_trans (nodupLen nf2 f12) lq
      rw [List.length_append, List.length_singleton] at lf2
      have la : (kindsAhead h.cs z).length ≤ 48 := by
        have := length_ahead z h.cs [] sm.c
        have := sm.cs
        simp only [List.length_nil] at *
        unfold kindsAhead
        omega
      have e2 : dS fs ++ [.str z] = dS (fs ++ [z]) := (List.map_append (l₁ := fs) (l₂ := [z])).symm
      have e3 : dS ws' ++ dS (kindsAhead h.cs z) = dS (ws' ++ kindsAhead h.cs z) := List.map_append.symm
      refine Run.cons (RunS.expr (Ev.append (i := 2) (q := p) (EvP.i (.var (i := 4) rfl) ⟨dS fs, rfl, by rw [List.length_map]; omega, ?_⟩) ⟨_, rfl⟩))
      refine Run.one (RunS.expr (Ev.extend (i := 3) (q := r) (EvP.i (EvP.own g ah hr (.cons (.var (i := 0) rfl) (.cons (.var (i := 4) rfl) .nil)) ⟨h, z, sm, rfl, rfl⟩) ⟨dS ws', _, rfl, rfl, by rw [List.length_map, List.length_map]; omega, ?_⟩) ⟨_, rfl⟩))
      refine ⟨_, ?_, fs ++ [z], ws' ++ kindsAhead h.cs z, .im (.str z), by rw [e2, e3]; rfl, nf2, f12, fun k hk => ?_, fun k hk => ?_, fun k hk j hj => ?_, ?_, rfl⟩
      · rw [f6, List.length_append, List.length_append, List.length_singleton]; omega
      · rcases List.mem_append.mp hk with h | h
        · exact hw k h
        · exact lb.cl z hz k h
      · rcases f3 k hk with h | h
        · exact .inl (List.mem_append_left _ h)
        · rcases List.mem_append.mp h with h | h
          · exact .inr (List.mem_append_left _ h)
          · exact .inl (List.mem_append_right _ h)
      · rcases List.mem_append.mp hk with h | h
        · rcases f4 k h j hj with h | h
          · exact .inl (List.mem_append_left _ h)
          · rcases List.mem_append.mp h with h | h
            · exact .inr (List.mem_append_left _ h)
            · exact .inl (List.mem_append_right _ h)
        · rw [List.mem_singleton.mp h] at hj
          exact .inr (List.mem_append_right _ hj)
      · rw [List.length_append, List.length_append, List.length_singleton]; omega
end
end K94
end

/-! text WD -/
section
set_option Elab.async false
set_option autoImplicit false
set_option linter.all false
set_option maxRecDepth 100000
set_option maxHeartbeats 4000000
/-! all sets, those that begin, counts -/
namespace K94
open PySem PySem.Spec PyProof.Rows L2
open PySem.W (EachIs AllAlike Sortable dataLt dataLe alike alikeAll SortsAt dataKind sortVals)

theorem srtMap {α : Type} (f : α → Dat) (l : List α) : srt (l.map f) = (l.mergeSort fun a b => dataLe false Dat.py (f a) (f b)).map f := by
  unfold srt
  exact (List.map_mergeSort (f := f) (l := l) (r := fun a b => dataLe false Dat.py (f a) (f b)) (s := dataLe false Dat.py) fun a _ b _ => rfl).symm
def sS (ks : List Str) : List Str := ks.mergeSort fun a b => dataLe false Dat.py (.str a) (.str b)
def sP (ps : List (List Str)) : List (List Str) := ps.mergeSort fun a b => dataLe false Dat.py (tS a) (tS b)
theorem sS_perm (ks : List Str) : (sS ks).Perm ks := List.mergeSort_perm _ _
theorem sP_perm (ks : List (List Str)) : (sP ks).Perm ks := List.mergeSort_perm _ _
/-! all sets -/
def setsStep (found : List (List Str)) (k : Str) : List (List Str) := found ++ found.map fun p => p ++ [k]
def allSets (ks : List Str) : List (List Str) := ks.foldl setsStep [[]]
theorem len_sets : ∀ (ks : List Str) (acc : List (List Str)), (ks.foldl setsStep acc).length = acc.length * 2 ^ ks.length
  | [], acc => by simp
  | k :: ks, acc => by
    rw [List.foldl_cons, len_sets ks, List.length_cons, Nat.pow_succ]
    unfold setsStep
    rw [List.length_append, List.length_map, ← Nat.two_mul, Nat.mul_comm 2, Nat.mul_assoc, Nat.mul_comm 2]
theorem each_sets {n : Nat} : ∀ (ks : List Str) (acc : List (List Str)), (∀ p ∈ acc, p.length ≤ n) → ∀ p ∈ ks.foldl setsStep acc, p.length ≤ n + ks.length
  | [], acc, h => fun p hp => Nat.le_trans (h p hp) (Nat.le_add_right _ _)
  | k :: ks, acc, h => fun p hp => by
    have := each_sets (n := n + 1) ks (setsStep acc k) (fun p hp => by
      rcases List.mem_append.mp hp with hp | hp
      · exact Nat.le_succ_of_le (h p hp)
      · obtain ⟨q, hq, rfl⟩ := List.mem_map.mp hp
        rw [List.length_append, List.length_singleton]
        exact Nat.succ_le_succ (h q hq)) p hp
    rw [List.length_cons]; omega
theorem sub_sets : ∀ (ks : List Str) (acc : List (List Str)), ∀ p ∈ ks.foldl setsStep acc, ∃ q ∈ acc, ∃ r, p = q ++ r ∧ r.Sublist ks
  | [], acc, p, hp => ⟨p, hp, [], by simp, List.Sublist.refl _⟩
  | k :: ks, acc, p, hp => by
    obtain ⟨q, hq, r, e, sr⟩ := sub_sets ks (setsStep acc k) p hp
    rcases List.mem_append.mp hq with hq | hq
    · exact ⟨q, hq, r, e, sr.cons _⟩
    · obtain ⟨q', hq', rfl⟩ := List.mem_map.mp hq
      exact ⟨q', hq', k :: r, by rw [e]; simp, sr.cons_cons _⟩
theorem filt_sets (b : Str → Bool) : ∀ (ks : List Str) (acc : List (List Str)), ∀ q ∈ acc, q ++ ks.filter b ∈ ks.foldl setsStep acc
  | [], acc, q, hq => by simpa using hq
  | k :: ks, acc, q, hq => by
    rw [List.foldl_cons, List.filter_cons]
    split
    · have := filt_sets b ks (setsStep acc k) (q ++ [k]) (List.mem_append_right _ (List.mem_map.mpr ⟨q, hq, rfl⟩))
      simpa using this
    · exact filt_sets b ks (setsStep acc k) q (List.mem_append_left _ hq)
theorem nd_sets : ∀ (ks : List Str) (acc : List (List Str)), acc.Nodup → (∀ p ∈ acc, ∀ k ∈ ks, k ∉ p) → ks.Nodup → (ks.foldl setsStep acc).Nodup
  | [], acc, na, _, _ => na
  | k :: ks, acc, na, h, nk => by
    rw [List.nodup_cons] at nk
    refine nd_sets ks (setsStep acc k) ?_ ?_ nk.2
    · refine List.nodup_append.mpr ⟨na, nodupMap (fun a b e => List.append_cancel_right e) na, fun a ha b hb e => ?_⟩
      obtain ⟨q, hq, rfl⟩ := List.mem_map.mp hb
      exact h a ha k List.mem_cons_self (by rw [e]; simp)
    · intro p hp j hj
      rcases List.mem_append.mp hp with hp | hp
      · exact h p hp j (List.mem_cons_of_mem _ hj)
      · obtain ⟨q, hq, rfl⟩ := List.mem_map.mp hp
        intro z
        rcases List.mem_append.mp z with z | z
        · exact h q hq j (List.mem_cons_of_mem _ hj) z
        · rw [List.mem_singleton.mp z] at hj
          exact nk.1 hj
theorem sets_sub {ks p : List Str} (h : p ∈ allSets ks) : p.Sublist ks := by
  obtain ⟨q, hq, r, e, s⟩ := sub_sets ks [[]] p h
  rw [List.mem_singleton.mp hq] at e
  rw [e]; exact s
theorem sets_nd {ks : List Str} (h : ks.Nodup) : (allSets ks).Nodup := nd_sets ks [[]] (by simp) (fun p hp k _ => by rw [List.mem_singleton.mp hp]; exact List.not_mem_nil) h
theorem sets_filt (ks : List Str) (b : Str → Bool) : ks.filter b ∈ allSets ks := filt_sets b ks [[]] [] List.mem_cons_self
theorem first_sets : ∀ (ks : List Str) (q : List Str) (acc : List (List Str)), ∃ l, ks.foldl setsStep (q :: acc) = q :: l
  | [], q, acc => ⟨acc, rfl⟩
  | k :: ks, q, acc => first_sets ks q _
theorem depthS : ∀ p : List Str, PyData.depthAll (pyAll (dS p)) = 0
  | [] => rfl
  | a :: p => by
    show max 0 (PyData.depthAll (pyAll (dS p))) = 0
    rw [depthS p]; rfl
theorem depthT (p : List Str) : (tS p).py.depth ≤ 1 := by
  show PyData.depthAll (pyAll (dS p)) + 1 ≤ 1
  rw [depthS]; exact Nat.le_refl _
def closedB (h : Hs) (p : List Str) : Bool := p.all fun k => (kindsAhead h.cs k).all fun a => decide (a ∈ p)
def bsets (h : Hs) : List (List Str) := sP ((allSets h.ks).filter (closedB h))
theorem bsets_mem {h : Hs} {p : List Str} : p ∈ bsets h ↔ p ∈ allSets h.ks ∧ closedB h p = true := by
  unfold bsets
  rw [(sP_perm _).mem_iff, List.mem_filter]
theorem bsets_nd {h : Hs} (nd : h.ks.Nodup) : (bsets h).Nodup := (sP_perm _).nodup_iff.mpr ((sets_nd nd).sublist List.filter_sublist)
theorem bsets_sub {h : Hs} {p : List Str} (hp : p ∈ bsets h) : p.Sublist h.ks := sets_sub (bsets_mem.mp hp).1
theorem bsets_nil {h : Hs} : [] ∈ bsets h := bsets_mem.mpr ⟨by have := sets_filt h.ks (fun _ => false); rwa [List.filter_eq_nil_iff.mpr (by simp)] at this, rfl⟩
theorem bsets_ne {h : Hs} : bsets h ≠ [] := fun e => by
  have := bsets_nil (h := h)
  rw [e] at this
  exact absurd this List.not_mem_nil
theorem sets_len {h : Hs} (sm : Small h) : (allSets h.ks).length ≤ 64 := by
  unfold allSets
  rw [len_sets, List.length_singleton, Nat.one_mul]
  exact Nat.pow_le_pow_right (by decide) sm.ks
theorem bsets_len {h : Hs} (sm : Small h) : (bsets h).length ≤ 64 := by
  unfold bsets
  rw [(sP_perm _).length_eq]
  exact Nat.le_trans (List.length_filter_le _ _) (sets_len sm)
theorem sets_each {h : Hs} (sm : Small h) {p : List Str} (hp : p ∈ allSets h.ks) : p.length ≤ 6 := Nat.le_trans (sets_sub hp).length_le sm.ks
theorem bsets_each {h : Hs} (sm : Small h) {p : List Str} (hp : p ∈ bsets h) : p.length ≤ 6 := Nat.le_trans (bsets_sub hp).length_le sm.ks
theorem bsets_in {h : Hs} {p : List Str} (hp : p ∈ bsets h) {k : Str} (hk : k ∈ p) : k ∈ h.ks := (bsets_sub hp).subset hk
def cntD (h : Hs) (c : List Str → Int) : Dat := .dict ((bsets h).map fun p => (tS p, .int (c p)))
section
variable {P : Program} {w : World} {K : PySem.W.Frag} {mg : Str → Option Value} {base : Heap} {k : Nat}
/-! ### all_sets -/
def rAll : List Dat → Dat → Prop := fun ds d => ∃ h : Hs, Small h ∧ ds = [h.dat] ∧ d = .list ((allSets h.ks).map tS)
def nAll : List Str := ["house", "found", "kind", "part"]
theorem scAll : FnScope nAll ["house"] (defScope (top 5)) := ⟨rfl, rfl, rfl, by decide +kernel, rfl, by decide +kernel, by decide +kernel⟩
theorem okAll (B : Bs K mg) (F : Stands K mg "all_sets" (top 5)) : Has P w K mg base 1 "all_sets" (PurSp K rAll) := by
  refine Has.pur F B scAll (fun _ _ _ _ _ _ us hl => match us, hl with | [_], _ => rfl) (fun ds d ⟨h, _, e, _⟩ => by rw [e]; rfl) fun ds d ⟨h, sm, hds, hd⟩ f cdv A outer s H g hr => ?_
  subst hds hd
  have nd := scAll.nd
  refine Run.cons (RunS.setP (i := 1) (EvP.lst (.cons (EvP.tup .nil) .nil)) ?_ nd)
  refine Run.cons (RunS.for_ ((EvItP.tup (EvP.ix (.var (i := 0) rfl) .int (Ix2.tup atI0))).i ?_) rfl)
  refine ⟨fun j δ' => ∃ x, δ' = [.im h.dat, .im (.list (((h.ks.take j).foldl setsStep [[]]).map tS)), x, .no], ⟨_, rfl⟩, fun j d δ' hj ⟨x, e⟩ => ?_, fun δ' ⟨x, e⟩ => ?_⟩
  · subst e
    rw [List.getElem?_map] at hj
    obtain ⟨c, hc, rfl⟩ := Option.map_eq_some_iff.mp hj
    refine ⟨_, AsD.name (i := 2) nd, ?_⟩
    have next := foldTake setsStep [[]] hc
    have lt : (h.ks.take j).length ≤ 6 := Nat.le_trans (by rw [List.length_take]; exact Nat.min_le_right _ _) sm.ks
    have len : ((h.ks.take j).foldl setsStep [[]]).length ≤ 64 := by
      rw [len_sets, List.length_singleton, Nat.one_mul]
      exact Nat.pow_le_pow_right (by decide) lt
    have each : ∀ p ∈ (h.ks.take j).foldl setsStep [[]], p.length ≤ 6 := fun p hp => by
      have := each_sets (n := 0) (h.ks.take j) [[]] (fun p hp => by rw [List.mem_singleton.mp hp]; exact Nat.le_refl _) p hp
      omega
    refine Run.one (RunS.setP (i := 1) (EvP.bin (.var (i := 1) rfl) (EvP.comp (own := [("part", 3)]) (ds := ((h.ks.take j).foldl setsStep [[]]).map tS) (b := fun _ => true) (r := fun d => tS (ssOf d ++ [c])) (f := fun d => [.im h.dat, .im (.list (((h.ks.take j).foldl setsStep [[]]).map tS)), .im (.str c), .im d]) rfl nd (blkOk_by (N := nAll) (sc := defScope (top 5)) (by decide +kernel))
      (.list (.var (i := 1) rfl)) (fun d hd s H C cl fp => AsDV.name (i := 3) nd) (fun d hd s H C cl fp => rfl) (fun d hd _ s H C cl fp => ?_) ?_) (Op2.cat ?_)) ?_ nd)
    · obtain ⟨p, hp, rfl⟩ := List.mem_map.mp hd
      have e : tS (ssOf (tS p) ++ [c]) = .tuple (dS p ++ [.str c]) := by rw [ssOf_tS]; exact congrArg Dat.tuple List.map_append
      rw [e]
      exact EvP.tupStar (.var (i := 3) rfl) (.var (i := 2) rfl) (by rw [List.length_map]; have := each p hp; omega)
    · rw [List.length_map]; omega
    · rw [keptAll, List.length_map, List.length_map, List.length_map]
      have : (1000 : Nat) ≤ sizeLine := by decide
      omega
    · refine ⟨.im (.str c), ?_⟩
      rw [next, keptAll, List.map_map]
      unfold setsStep
      rw [List.map_append, List.map_map]
      have : ((fun d => tS (ssOf d ++ [c])) ∘ tS) = (tS ∘ fun p => p ++ [c]) := funext fun p => by
        show tS (ssOf (tS p) ++ [c]) = tS (p ++ [c])
        rw [ssOf_tS]
      rw [this]
      rfl
  · subst e
    rw [List.length_map, List.take_length]
    exact Run.one (RunS.retP (.var (i := 1) rfl) rfl)
/-! ### beginning_sets -/
def rBeg : List Dat → Dat → Prop := fun ds d => ∃ h : Hs, Small h ∧ h.ks.Nodup ∧ ds = [h.dat] ∧ d = .list ((bsets h).map tS)
def nBeg : List Str := ["house", "ahead", "kind", "part"]
theorem scBeg : FnScope nBeg ["house"] (defScope (top 6)) := ⟨rfl, rfl, rfl, by decide +kernel, rfl, by decide +kernel, by decide +kernel⟩
theorem alikeParts (ps : List (List Str)) : AllAlike ((ps.map tS).map Dat.py) := fun d hd d' hd' => by
  obtain ⟨x, hx, rfl⟩ := List.mem_map.mp hd
  obtain ⟨y, hy, rfl⟩ := List.mem_map.mp hd'
  obtain ⟨p, _, rfl⟩ := List.mem_map.mp hx
  obtain ⟨q, _, rfl⟩ := List.mem_map.mp hy
  show alike (.tuple (pyAll (dS p))) (.tuple (pyAll (dS q))) = true
  have : ∀ p q : List Str, alikeAll (pyAll (dS p)) (pyAll (dS q)) = true := by
    intro p
    induction p with
    | nil => intro q; cases q <;> rfl
    | cons a p ih => intro q; cases q with
      | nil => rfl
      | cons b q => exact ih q
  exact this p q
theorem okBeg (B : Bs K mg) (F : Stands K mg "beginning_sets" (top 6)) (ah : Has P w K mg base 1 "kinds_ahead" (PurSp K rAhead)) (al : Has P w K mg base 1 "all_sets" (PurSp K rAll)) (wi : Has P w K mg base 1 "within" (PurSp K rWithin)) : Has P w K mg base 2 "beginning_sets" (PurSp K rBeg) := by
  refine Has.pur F B scBeg (fun _ _ _ _ _ _ us hl => match us, hl with | [_], _ => rfl) (fun ds d ⟨h, _, _, e, _⟩ => by rw [e]; rfl) fun ds d ⟨h, sm, nk, hds, hd⟩ f cdv A outer s H g hr => ?_
  subst hds hd
  have nd := scBeg.nd
  have ek : keptK (fun _ => true) keyOf (fun d => lS (kindsAhead h.cs (sOf d))) (dS h.ks) = h.ks.map fun k => (.str k, lS (kindsAhead h.cs k)) := keptK_S nk
  have es : srt (((allSets h.ks).filter (closedB h)).map tS) = (bsets h).map tS := srtMap tS _
  refine Run.cons (RunS.setP (i := 1) (d := .dict (h.ks.map fun k => (.str k, lS (kindsAhead h.cs k)))) (EvP.cast (EvP.dictK (own := [("kind", 2)]) (ds := dS h.ks) (b := fun _ => true) (kf := keyOf) (kd := id) (r := fun d => lS (kindsAhead h.cs (sOf d))) (f := fun d => [.im h.dat, .no, .im d, .no]) rfl nd (blkOk_by (N := nBeg) (sc := defScope (top 6)) (by decide +kernel))
    (.tup (EvP.ix (.var (i := 0) rfl) .int (Ix2.tup atI0))) (fun d hd s H C cl fp => AsDV.name (i := 2) nd) (fun d hd s H C cl fp => ?_) (fun d hd _ => ?_) (fun d hd _ s H C cl fp => ?_) ?_) (congrArg Dat.dict ek)) ?_ nd)
  · rfl
  · obtain ⟨o, _, rfl⟩ := List.mem_map.mp hd
    exact ⟨.str o, fun s H C cl fp => .var (i := 2) rfl⟩
  · obtain ⟨o, _, rfl⟩ := List.mem_map.mp hd
    exact EvP.own g.blk ah hr (.cons (.var (i := 0) rfl) (.cons (.var (i := 2) rfl) .nil)) ⟨h, o, sm, rfl, rfl⟩
  · rw [List.length_map]; have := sm.ks; omega
  refine Run.one (RunS.retP (d := .list ((bsets h).map tS)) (EvP.callB (fid := "sorted") (.cons (d := .list (((allSets h.ks).filter (closedB h)).map tS)) ?_ .nil) (es ▸ CallD.sortedE g (alikeParts _) ?_ ?_ ?_ ?_) (B.free _ (by decide))) ?_)
  · refine EvP.cast (EvP.comp (own := [("part", 3)]) (ds := (allSets h.ks).map tS) (b := fun d => closedB h (ssOf d)) (r := id) (f := fun d => [.im h.dat, .im (.dict (h.ks.map fun k => (.str k, lS (kindsAhead h.cs k)))), .no, .im d]) rfl nd (blkOk_by (N := nBeg) (sc := defScope (top 6)) (by decide +kernel))
      (.list (EvP.own g al (hr.mono (by decide)) (.cons (.var (i := 0) rfl) .nil) ⟨h, sm, rfl, rfl⟩)) (fun d hd s H C cl fp => AsDV.name (i := 3) nd) (fun d hd s H C cl fp => ?_) (fun d hd _ s H C cl fp => .var (i := 3) rfl) ?_) ?_
    · obtain ⟨p, hp, rfl⟩ := List.mem_map.mp hd
      have sub := sets_sub hp
      have each := sets_each sm hp
      have ec : closedB h (ssOf (tS p)) = (p.map fun k => (kindsAhead h.cs k).all fun a => decide (a ∈ p)).all id := by rw [ssOf_tS, List.all_map]; rfl
      show EvTP _ _ _ (closedB h (ssOf (tS p)))
      rw [ec]
      refine EvTP.val (EvP.callB (fid := "all") (.cons (d := .list ((p.map fun k => (kindsAhead h.cs k).all fun a => decide (a ∈ p)).map Dat.bool)) ?_ .nil) ?_ B.all)
      · refine EvP.cast (EvP.comp (own := [("kind", 2)]) (ds := dS p) (b := fun _ => true) (r := fun d => .bool ((kindsAhead h.cs (sOf d)).all fun a => decide (a ∈ p))) (f := fun d => [.im h.dat, .im (.dict (h.ks.map fun k => (.str k, lS (kindsAhead h.cs k)))), .im d, .im (tS p)]) rfl nd (blkIn (N := nBeg) (sc := defScope (top 6)) (by decide +kernel))
          (.tup (.var (i := 3) rfl)) (fun d hd s H C cl fp => AsDV.name (i := 2) nd) (fun d hd s H C cl fp => ?_) (fun d hd _ s H C cl fp => ?_) ?_) ?_
        · rfl
        · obtain ⟨o, ho, rfl⟩ := List.mem_map.mp hd
          refine EvP.own g.blk.blk wi (hr.mono (by decide)) (.cons (EvP.dgetK g.blk.blk (k := .inr o) (.var (i := 1) rfl) (.var (i := 2) rfl) (.str o) (atomsS id _ _) (dlook_str (fun k => lS (kindsAhead h.cs k)) (sub.subset ho))) (.cons (.var (i := 3) rfl) .nil)) ⟨kindsAhead h.cs o, p, .inr rfl, ?_, rfl⟩
          have := length_ahead o h.cs [] sm.c
          have := sm.cs
          simp only [List.length_nil] at *
          unfold kindsAhead
          omega
        · rw [List.length_map]; omega
        · rw [keptAll, List.map_map, List.map_map]; rfl
      · exact CallD.all g.blk
    · rw [List.length_map]; have := sets_len sm; omega
    · unfold keptD
      rw [List.filter_map, List.map_map]
      have : ((fun d => closedB h (ssOf d)) ∘ tS) = closedB h := funext fun p => by show closedB h (ssOf (tS p)) = _; rw [ssOf_tS]
      rw [this]
      rfl
  · intro d hd
    obtain ⟨p, _, rfl⟩ := List.mem_map.mp hd
    exact ⟨_, rfl⟩
  · obtain ⟨l, el⟩ := first_sets h.ks [] []
    have : (allSets h.ks).filter (closedB h) = [] :: l.filter (closedB h) := by
      unfold allSets
      rw [el]; rfl
    rw [this]; rfl
  · intro d hd
    obtain ⟨p, _, rfl⟩ := List.mem_map.mp hd
    exact Nat.le_trans (depthT p) (by decide)
  · rw [List.length_map]; have := sets_len sm; have := List.length_filter_le (closedB h) (allSets h.ks); omega
  · exact rfl
end
end K94
end

/-! text WE -/
section
set_option Elab.async false
set_option autoImplicit false
set_option linter.all false
set_option maxRecDepth 100000
set_option maxHeartbeats 4000000
/-! counts and amounts -/
namespace K94
open PySem PySem.Spec PyProof.Rows L2
open PySem.W (EachIs AllAlike Sortable dataLt dataLe alike alikeAll SortsAt dataKind sortVals)

theorem len1000 {α : Type} {l : List α} (h : l.length ≤ 100) (f : α → Dat) : (l.map f).length ≤ 1000 := by
  rw [List.length_map]; omega
section
variable {P : Program} {w : World} {K : PySem.W.Frag} {mg : Str → Option Value} {base : Heap} {k : Nat}
/-! ### count_in -/
def rCnt : List Dat → Dat → Prop := fun ds d => ∃ (ks : List Str) (am : Str → Int) (p : List Str), (∀ k ∈ p, k ∈ ks) ∧ p.length ≤ 100 ∧ ds = [mD ks am, tS p] ∧ d = .int ((p.map am).sum)
def nCnt : List Str := ["amounts", "part", "kind"]
theorem scCnt : FnScope nCnt ["amounts", "part"] (defScope (top 7)) := ⟨rfl, rfl, rfl, by decide +kernel, rfl, by decide +kernel, by decide +kernel⟩
theorem okCnt (B : Bs K mg) (F : Stands K mg "count_in" (top 7)) : Has P w K mg base 1 "count_in" (PurSp K rCnt) := by
  refine Has.pur F B scCnt (fun _ _ _ _ _ _ us hl => match us, hl with | [_, _], _ => rfl) (fun ds d ⟨_, _, _, _, _, e, _⟩ => by rw [e]; rfl) fun ds d ⟨ks, am, p, hp, hl, hds, hd⟩ f cdv A outer s H g hr => ?_
  subst hds hd
  have nd := scCnt.nd
  refine Run.one (RunS.retP (d := .int ((p.map am).sum)) (EvP.callB (fid := "sum") (.cons (d := .list ((p.map am).map Dat.int)) ?_ .nil) (CallD.sum g) (B.free _ (by decide))) rfl)
  refine EvP.cast (EvP.comp (own := [("kind", 2)]) (ds := dS p) (b := fun _ => true) (r := fun d => .int (am (sOf d))) (f := fun d => [.im (mD ks am), .im (tS p), .im d]) rfl nd (blkOk_by (N := nCnt) (sc := defScope (top 7)) (by decide +kernel))
    (.tup (.var (i := 1) rfl)) (fun d hd s H C cl fp => AsDV.name (i := 2) nd) (fun d hd s H C cl fp => ?_) (fun d hd _ s H C cl fp => ?_) (len1000 hl _)) ?_
  · rfl
  · obtain ⟨o, ho, rfl⟩ := List.mem_map.mp hd
    exact EvP.dgetK g.blk (k := .inr o) (.var (i := 0) rfl) (.var (i := 2) rfl) (.str o) (atomsS id _ _) (dlook_mD (hp o ho))
  · rw [keptAll, List.map_map, List.map_map]; rfl
/-! ### counts_of -/
def rCnts : List Dat → Dat → Prop := fun ds d => ∃ (h : Hs) (ks : List Str) (am : Str → Int), Small h ∧ h.ks.Nodup ∧ (∀ k ∈ h.ks, k ∈ ks) ∧ ds = [h.dat, mD ks am] ∧ d = cntD h fun p => (p.map am).sum
def nCnts : List Str := ["house", "amounts", "part"]
theorem scCnts : FnScope nCnts ["house", "amounts"] (defScope (top 8)) := ⟨rfl, rfl, rfl, by decide +kernel, rfl, by decide +kernel, by decide +kernel⟩
theorem okCnts (B : Bs K mg) (F : Stands K mg "counts_of" (top 8)) (bg : Has P w K mg base 2 "beginning_sets" (PurSp K rBeg)) (ct : Has P w K mg base 1 "count_in" (PurSp K rCnt)) : Has P w K mg base 3 "counts_of" (PurSp K rCnts) := by
  refine Has.pur F B scCnts (fun _ _ _ _ _ _ us hl => match us, hl with | [_, _], _ => rfl) (fun ds d ⟨_, _, _, _, _, _, e, _⟩ => by rw [e]; rfl) fun ds d ⟨h, ks, am, sm, nk, hks, hds, hd⟩ f cdv A outer s H g hr => ?_
  subst hds hd
  have nd := scCnts.nd
  have bn := bsets_nd nk
  have e0 : keptT (fun _ => true) keysOf (fun d => .int (((ssOf d).map am).sum)) ((bsets h).map tS) = (bsets h).map fun p => (tS p, .int ((p.map am).sum)) := by
    rw [keptT_S bn]
    exact List.map_congr_left fun p _ => by show (tS p, Dat.int (((ssOf (tS p)).map am).sum)) = _; rw [ssOf_tS]
  refine Run.one (RunS.retP (d := cntD h fun p => (p.map am).sum) ?_ rfl)
  refine EvP.cast (EvP.dictT (own := [("part", 2)]) (ds := (bsets h).map tS) (b := fun _ => true) (kf := keysOf) (r := fun d => .int (((ssOf d).map am).sum)) (f := fun d => [.im h.dat, .im (mD ks am), .im d]) g nd (blkOk_by (N := nCnts) (sc := defScope (top 8)) (by decide +kernel))
    (.list (EvP.own g bg hr (.cons (.var (i := 0) rfl) .nil) ⟨h, sm, nk, rfl, rfl⟩)) (fun d hd s H C cl fp => AsDV.name (i := 2) nd) (fun d hd s H C cl fp => ?_) (fun d hd _ s H C cl fp => ?_) (fun d hd _ s H C cl fp => ?_) ?_ ?_) (congrArg Dat.dict e0)
  · rfl
  · obtain ⟨p, hp, rfl⟩ := List.mem_map.mp hd
    refine EvP.cast (.var (i := 2) rfl) ?_
    show tS p = tK ((ssOf (tS p)).map Sum.inr)
    rw [ssOf_tS, tK_S]
  · obtain ⟨p, hp, rfl⟩ := List.mem_map.mp hd
    refine EvP.own g.blk ct (hr.mono (by decide)) (.cons (.var (i := 1) rfl) (.cons (.var (i := 2) rfl) .nil)) ⟨ks, am, p, fun k hk => hks k (bsets_in hp hk), ?_, rfl, ?_⟩
    · have := bsets_each sm hp; omega
    · show Dat.int (((ssOf (tS p)).map am).sum) = _
      rw [ssOf_tS]
  · rw [List.length_map]; have := bsets_len sm; omega
  · rw [e0]
    simpa using bsets_ne
/-! ### amounts_of -/
def lessK (p : List Str) (k : Str) : List Str := p.filter fun o => !decide (o = k)
def rAms : List Dat → Dat → Prop := fun ds d => ∃ (h : Hs) (c : List Str → Int) (lb : Str → List Str), Small h ∧ h.ks.Nodup ∧ (∀ k ∈ h.ks, LeastB h [k] (lb k) ∧ lb k ∈ bsets h ∧ lessK (lb k) k ∈ bsets h) ∧ ds = [h.dat, cntD h c] ∧ d = mD (sS h.ks) fun k => c (lb k) - c (lessK (lb k) k)
def nAms : List Str := ["house", "counts", "found", "kind", "part", "other"]
theorem scAms : FnScope nAms ["house", "counts"] (defScope (top 9)) := ⟨rfl, rfl, rfl, by decide +kernel, rfl, by decide +kernel, by decide +kernel⟩
theorem srtS (ks : List Str) : srt (dS ks) = dS (sS ks) := srtMap Dat.str ks
theorem okAms (B : Bs K mg) (F : Stands K mg "amounts_of" (top 9)) (le : Has P w K mg base 2 "least_beginning" (PurSp K rLeast)) : Has P w K mg base 3 "amounts_of" (PurSp K rAms) := by
  refine Has.pur F B scAms (fun _ _ _ _ _ _ us hl => match us, hl with | [_, _], _ => rfl) (fun ds d ⟨_, _, _, _, _, _, e, _⟩ => by rw [e]; rfl) fun ds d ⟨h, c, lb, sm, nk, hlb, hds, hd⟩ f cdv A outer s H g hr => ?_
  subst hds hd
  have nd := scAms.nd
  have ns : (sS h.ks).Nodup := (sS_perm _).nodup_iff.mpr nk
  have ls : (sS h.ks).length ≤ 6 := by rw [(sS_perm _).length_eq]; exact sm.ks
  have hs := srtS h.ks
  refine Run.cons (RunS.set (i := 2) (Ev.newK fun q => ?_) nd)
  refine Run.cons (RunS.for_ ((EvItP.list (ds := dS (sS h.ks)) (EvP.callB (fid := "sorted") (.cons (EvP.ix (.var (i := 0) rfl) .int (Ix2.tup atI0)) .nil) (hs ▸ CallD.sortedT g (by have := sm.ks; omega)) (B.free _ (by decide)))).i ?_) rfl)
  refine ⟨fun j δ' => ∃ x y, δ' = [.im h.dat, .im (cntD h c), .ow q (.d (mD ((sS h.ks).take j) fun k => c (lb k) - c (lessK (lb k) k))), x, y, .no], ⟨_, _, rfl⟩, fun j d δ' hj ⟨x, y, e⟩ => ?_, fun δ' ⟨x, y, e⟩ => ?_⟩
  · subst e
    rw [List.getElem?_map] at hj
    obtain ⟨z, hz, rfl⟩ := Option.map_eq_some_iff.mp hj
    have hzk : z ∈ h.ks := (sS_perm _).mem_iff.mp (List.mem_of_getElem? hz)
    obtain ⟨h1, h2, h3⟩ := hlb z hzk
    refine ⟨_, AsD.name (i := 3) nd, ?_⟩
    refine Run.cons (RunS.setP (i := 4) (EvP.own g le hr (.cons (.var (i := 0) rfl) (.cons (EvP.tup (.cons (.var (i := 3) rfl) .nil) (Nat.le_of_ble_eq_true rfl)) .nil)) ⟨h, [z], lb z, sm, h1, Nat.le_of_ble_eq_true rfl, rfl, rfl⟩) ?_ nd)
    refine Run.one (RunS.putK (i := 2) (q := q) (EvP.i (d := .int (c (lb z) - c (lessK (lb z) z))) ?_ ⟨_, .str z, .inr z, rfl, .var (i := 3) rfl, .str z, ?_, ?_⟩) g)
    · refine EvP.bin (EvP.dgetT g (k := (lb z).map Sum.inr) (.var (i := 1) rfl) (EvP.cast (.var (i := 4) rfl) (tK_S _).symm) (tupsS id _ bsets_ne) (dlookT_S _ h2)) ?_ Op2.sub
      refine EvP.dgetT g (k := (lessK (lb z) z).map Sum.inr) (.var (i := 1) rfl) (EvP.cast (EvP.callT (T := "tuple") (.cons (d := lS (lessK (lb z) z)) ?_ .nil) CallD.tupL (B.free _ (by decide))) (tK_S _).symm) (tupsS id _ bsets_ne) (dlookT_S _ h3)
      refine EvP.cast (EvP.comp (own := [("other", 5)]) (ds := dS (lb z)) (b := fun d => !decide (sOf d = z)) (r := id) (f := fun d => [.im h.dat, .im (cntD h c), .ow q (.d (mD ((sS h.ks).take j) fun k => c (lb k) - c (lessK (lb k) k))), .im (.str z), .im (tS (lb z)), .im d]) rfl nd (blkOk_by (N := nAms) (sc := defScope (top 9)) (by decide +kernel))
        (.tup (.var (i := 4) rfl)) (fun d hd s H C cl fp => AsDV.name (i := 5) nd) (fun d hd s H C cl fp => ?_) (fun d hd _ s H C cl fp => .var (i := 5) rfl) (len1000 (by have := bsets_each sm h2; omega) _)) ?_
      · obtain ⟨o, ho, rfl⟩ := List.mem_map.mp hd
        exact EvTP.cmp (.var (i := 5) rfl) (.var (i := 3) rfl) Cmp2.neS
      · exact congrArg Dat.list (keptS (fun o => !decide (o = z)) id Dat.str (fun _ => rfl) _)
    · rw [List.length_map, List.length_take]; omega
    · refine ⟨.im (.str z), .im (tS (lb z)), ?_⟩
      have hlt := (List.getElem?_eq_some_iff.mp hz).1
      have e : dputK (((sS h.ks).take j).map fun k => (Dat.str k, Dat.int (c (lb k) - c (lessK (lb k) k)))) (.inr z) (.int (c (lb z) - c (lessK (lb z) z))) = ((sS h.ks).take (j + 1)).map fun k => (Dat.str k, Dat.int (c (lb k) - c (lessK (lb k) k))) := by
        rw [dputK_new, List.take_add_one, hz, Option.toList_some, List.map_append]; rfl
        intro p hp
        obtain ⟨k, hk, rfl⟩ := List.mem_map.mp hp
        refine ⟨.inr k, rfl, fun e => ?_⟩
        cases e
        obtain ⟨i, hi, e⟩ := List.mem_take_iff_getElem.mp hk
        have hz2 := (List.getElem?_eq_some_iff.mp hz).2
        have := (List.getElem_inj ns).mp (e.trans hz2.symm)
        omega
      show _ = [_, _, Cell.ow q (.d (.dict _)), _, _, _]
      rw [← e]
      rfl
  · subst e
    rw [List.length_map, List.take_length]
    exact Run.one (RunS.ret (Ev.giveVar (i := 2) rfl rfl))
end
end K94
end

/-! text WF -/
section
set_option Elab.async false
set_option autoImplicit false
set_option linter.all false
set_option maxRecDepth 100000
set_option maxHeartbeats 4000000
/-! no forks -/
namespace K94
open PySem PySem.Spec PyProof.Rows L2
open PySem.W (EachIs AllAlike Sortable dataLt dataLe alike alikeAll SortsAt dataKind sortVals)

def after (k : Str) (c : List Str) : List Str := c.drop (c.idxOf k + 1)
def Nest (h : Hs) : Prop := ∀ one ∈ h.cs, ∀ other ∈ h.cs, ∀ k ∈ one, k ∈ other → ∀ l ∈ after k one, l ∈ other
theorem idxAt {c : List Str} {z : Str} (h : z ∈ c) : c[c.idxOf z]? = some z ∧ ∀ m, m < c.idxOf z → c[m]? ≠ some z := by
  have lt : c.idxOf z < c.length := List.idxOf_lt_length_iff.mpr h
  refine ⟨by rw [List.getElem?_eq_getElem lt, List.getElem_idxOf lt], fun m hm2 e => ?_⟩
  obtain ⟨hl, e2⟩ := List.getElem?_eq_some_iff.mp e
  have := List.not_of_lt_findIdx (xs := c) (p := (· == z)) (i := m) (by exact hm2)
  simp [e2] at this
section
variable {P : Program} {w : World} {K : PySem.W.Frag} {mg : Str → Option Value} {base : Heap} {k : Nat}
/-! ### behind -/
def rBehind : List Dat → Dat → Prop := fun ds d => ∃ (c : List Str) (z : Str), z ∈ c ∧ ds = [cD c, .str z] ∧ d = tS (after z c)
def nBehind : List Str := ["call", "kind"]
theorem scBehind : FnScope nBehind ["call", "kind"] (defScope (top 18)) := ⟨rfl, rfl, rfl, by decide +kernel, rfl, by decide +kernel, by decide +kernel⟩
theorem okBehind (B : Bs K mg) (F : Stands K mg "behind" (top 18)) : Has P w K mg base 1 "behind" (PurSp K rBehind) := by
  refine Has.pur F B scBehind (fun _ _ _ _ _ _ us hl => match us, hl with | [_, _], _ => rfl) (fun ds d ⟨_, _, _, e, _⟩ => by rw [e]; rfl) fun ds d ⟨c, z, hz, hds, hd⟩ f cdv A outer s H g hr => ?_
  subst hds hd
  have lt : c.idxOf z < c.length := List.idxOf_lt_length_iff.mpr hz
  have e1 : ((c.idxOf z : Nat) : Int) + 1 = ((c.idxOf z + 1 : Nat) : Int) := rfl
  refine Run.one (RunS.retP (d := tS (after z c)) (EvP.cast (EvP.slice (l := some (((c.idxOf z : Nat) : Int) + 1)) (.var (i := 0) rfl) (EvOP.some_ (EvP.bin (EvP.index (.var (i := 0) rfl) (.var (i := 1) rfl) (idxAt hz).1 (idxAt hz).2) .int Op2.add)) EvOP.none_ (Sl2.ftup ?_)) ?_) rfl)
  · intro ⟨e, _⟩
    simp only [HT.sIx, List.length_map] at e
    split at e <;> omega
  · rw [e1, cutFrom _ (by rw [List.length_map]; omega), ← List.map_drop]; rfl
/-! ### forks_between -/
def rBtw : List Dat → Dat → Prop := fun ds d => ∃ (one other : List Str), one.length ≤ 6 ∧ (∀ k ∈ one, k ∈ other → ∀ l ∈ after k one, l ∈ other) ∧ ds = [cD one, cD other] ∧ d = .list []
def nBtw : List Str := ["one", "other", "both", "kind", "later"]
theorem scBtw : FnScope nBtw ["one", "other"] (defScope (top 19)) := ⟨rfl, rfl, rfl, by decide +kernel, rfl, by decide +kernel, by decide +kernel⟩
theorem okBtw (B : Bs K mg) (F : Stands K mg "forks_between" (top 19)) (bh : Has P w K mg base 1 "behind" (PurSp K rBehind)) : Has P w K mg base 2 "forks_between" (PurSp K rBtw) := by
  refine Has.pur F B scBtw (fun _ _ _ _ _ _ us hl => match us, hl with | [_, _], _ => rfl) (fun ds d ⟨_, _, _, _, e, _⟩ => by rw [e]; rfl) fun ds d ⟨one, other, l1, hn, hds, hd⟩ f cdv A outer s H g hr => ?_
  subst hds hd
  have nd := scBtw.nd
  refine Run.cons (RunS.setComp (i := 2) (own := [("kind", 3)]) (ds := dS one) (b := fun d => decide (sOf d ∈ other)) (r := id) (f := fun d => [.im (cD one), .im (cD other), .no, .im d, .no]) rfl nd (blkOk_by (N := nBtw) (sc := defScope (top 19)) (by decide +kernel))
    (.ftup (.var (i := 0) rfl)) (fun d hd s H C cl fp => AsDV.name (i := 3) nd) (fun d hd s H C cl fp => ?_) (fun d hd _ s H C cl fp => .var (i := 3) rfl) (len1000 (by omega) _) ?_)
  · obtain ⟨o, ho, rfl⟩ := List.mem_map.mp hd
    exact EvTP.cmp (.var (i := 3) rfl) (.var (i := 1) rfl) Cmp2.inFS
  have e0 : keptD (fun d => decide (sOf d ∈ other)) id (dS one) = dS (one.filter fun o => decide (o ∈ other)) := keptS (fun o => decide (o ∈ other)) id Dat.str (fun _ => rfl) _
  rw [e0]
  refine Run.one (RunS.retP (d := .list []) (EvP.comp2nil (own := [("kind", 3), ("later", 4)]) (vs1 := [4]) (ds := dS (one.filter fun o => decide (o ∈ other))) (f := fun d => [.im (cD one), .im (cD other), .im (lS (one.filter fun o => decide (o ∈ other))), .im d, .no])
    (ds1 := fun d => dS (after (sOf d) one)) (f1 := fun d d1 => [.im (cD one), .im (cD other), .im (lS (one.filter fun o => decide (o ∈ other))), .im d, .im d1]) rfl nd (blkOk_by (N := nBtw) (sc := defScope (top 19)) (by decide +kernel)) (by decide)
    (.list (.var (i := 2) rfl)) (fun d hd s H C cl fp => AsDV.name (i := 3) nd) (fun d hd s H C cl fp => ?_) (fun d hd d1 hd1 s H C cl fp => AsDV.name (i := 4) nd) (fun d hd d1 hd1 s H C cl fp => ?_)) rfl)
  · obtain ⟨o, ho, rfl⟩ := List.mem_map.mp hd
    have ho := List.mem_filter.mp ho
    exact .tup (EvP.own g.blk bh hr (.cons (.var (i := 0) rfl) (.cons (.var (i := 3) rfl) .nil)) ⟨one, o, ho.1, rfl, rfl⟩)
  · obtain ⟨o, ho, rfl⟩ := List.mem_map.mp hd
    obtain ⟨l, hl, rfl⟩ := List.mem_map.mp hd1
    have ho := List.mem_filter.mp ho
    have := hn o ho.1 (of_decide_eq_true ho.2) l hl
    have e : false = !decide (l ∈ other) := by simpa using this
    rw [e]
    exact EvTP.cmp (.var (i := 4) rfl) (.var (i := 1) rfl) Cmp2.notInFS
/-! ### forks_of -/
def rForks : List Dat → Dat → Prop := fun ds d => ∃ h : Hs, Small h ∧ Nest h ∧ ds = [h.dat] ∧ d = .list []
def nForks : List Str := ["house", "found", "one", "other"]
theorem scForks : FnScope nForks ["house"] (defScope (top 20)) := ⟨rfl, rfl, rfl, by decide +kernel, rfl, by decide +kernel, by decide +kernel⟩
theorem okForks (B : Bs K mg) (F : Stands K mg "forks_of" (top 20)) (bt : Has P w K mg base 2 "forks_between" (PurSp K rBtw)) : Has P w K mg base 3 "forks_of" (PurSp K rForks) := by
  refine Has.pur F B scForks (fun _ _ _ _ _ _ us hl => match us, hl with | [_], _ => rfl) (fun ds d ⟨_, _, _, e, _⟩ => by rw [e]; rfl) fun ds d ⟨h, sm, ne, hds, hd⟩ f cdv A outer s H g hr => ?_
  subst hds hd
  have nd := scForks.nd
  refine Run.cons (RunS.set (i := 1) (Ev.newL (.nil ⟨Nat.zero_le _, fun q => ?_⟩)) nd)
  refine Run.cons (RunS.for_ ((EvItP.tup (EvP.ix (.var (i := 0) rfl) .int (Ix2.tup atI1))).i ?_) rfl)
  refine ⟨fun j δ' => ∃ x y, δ' = [.im h.dat, .ow q (.d (.list [])), x, y], ⟨_, _, rfl⟩, fun j d δ' hj ⟨x, y, e⟩ => ?_, fun δ' ⟨x, y, e⟩ => ?_⟩
  · subst e
    rw [List.getElem?_map] at hj
    obtain ⟨one, h1, rfl⟩ := Option.map_eq_some_iff.mp hj
    refine ⟨_, AsD.name (i := 2) nd, ?_⟩
    refine Run.one (RunS.for_ ((EvItP.tup (EvP.ix (.var (i := 0) rfl) .int (Ix2.tup atI1))).i ?_) rfl)
    refine ⟨fun j δ' => ∃ y, δ' = [.im h.dat, .ow q (.d (.list [])), .im (cD one), y], ⟨_, rfl⟩, fun j d δ' hj ⟨y, e⟩ => ?_, fun δ' ⟨y, e⟩ => ⟨_, y, e⟩⟩
    subst e
    rw [List.getElem?_map] at hj
    obtain ⟨other, h2, rfl⟩ := Option.map_eq_some_iff.mp hj
    refine ⟨_, AsD.name (i := 3) nd, ?_⟩
    exact Run.one (RunS.expr (Ev.extend (i := 1) (q := q) (EvP.i (EvP.own g bt hr (.cons (.var (i := 2) rfl) (.cons (.var (i := 3) rfl) .nil)) ⟨one, other, sm.c one (List.mem_of_getElem? h1), ne one (List.mem_of_getElem? h1) other (List.mem_of_getElem? h2), rfl, rfl⟩) ⟨[], [], rfl, rfl, Nat.zero_le _, _, rfl⟩) ⟨_, rfl⟩))
  · subst e
    refine Run.one (RunS.retI (EvI.callB (fid := "sorted") (EvA.cons (Ev.toI (Ev.giveVar (i := 1) rfl ⟨_, rfl, EvA.nil ⟨.list [], ?_, rfl⟩⟩))) (B.free _ (by decide))))
    have : srt [] = [] := by simp [srt]
    have h0 := CallD.sorted (X := CxD P w K mg base nForks "forks_of" (top 20) f cdv A outer s H) (ds := []) g (fun d hd => absurd hd List.not_mem_nil) (.inr fun d hd => absurd hd List.not_mem_nil) (fun d hd => absurd hd List.not_mem_nil) (Nat.zero_le _)
    rw [this] at h0
    exact h0
/-! ### need_nested -/
def rNeed : List Dat → Dat → Prop := fun ds d => ∃ h : Hs, Small h ∧ Nest h ∧ ds = [h.dat] ∧ d = .none
def nNeed : List Str := ["house", "forks"]
theorem scNeed : FnScope nNeed ["house"] (defScope (top 21)) := ⟨rfl, rfl, rfl, by decide +kernel, rfl, by decide +kernel, by decide +kernel⟩
theorem okNeed (B : Bs K mg) (F : Stands K mg "need_nested" (top 21)) (fo : Has P w K mg base 3 "forks_of" (PurSp K rForks)) : Has P w K mg base 4 "need_nested" (PurSp K rNeed) := by
  refine Has.pur F B scNeed (fun _ _ _ _ _ _ us hl => match us, hl with | [_], _ => rfl) (fun ds d ⟨_, _, _, e, _⟩ => by rw [e]; rfl) fun ds d ⟨h, sm, ne, hds, hd⟩ f cdv A outer s H g hr => ?_
  subst hds hd
  have nd := scNeed.nd
  refine Run.cons (RunS.setP (i := 1) (EvP.own g fo hr (.cons (.var (i := 0) rfl) .nil) ⟨h, sm, ne, rfl, rfl⟩) ?_ nd)
  refine Run.one (RunS.if_ (EvTP.t (EvTP.cmp (.var (i := 1) rfl) (.lst .nil) (Cmp2.neNil g)) ?_))
  exact Run.nil rfl
end
end K94
end

/-! text WG -/
section
set_option Elab.async false
set_option autoImplicit false
set_option linter.all false
set_option maxRecDepth 100000
set_option maxHeartbeats 4000000
/-! briefs -/
namespace K94
open PySem PySem.Spec PyProof.Rows L2

def subB (q p : List Str) : Bool := q.all fun k => decide (k ∈ p)
def inn (h : Hs) (p : List Str) : List (List Str) := (bsets h).filter fun q => subB q p
def innR (h : Hs) (p : List Str) : Dat := .dict ((inn h p).map fun q => (tS q, .bool true))
def innD (h : Hs) : Dat := .dict ((bsets h).map fun p => (tS p, innR h p))
def brfR (h : Hs) (M : List Str → List Str → Int) (p : List Str) : Dat := .dict ((inn h p).map fun q => (tS q, .int (M p q)))
def brfD (h : Hs) (M : List Str → List Str → Int) : Dat := .dict ((bsets h).map fun p => (tS p, brfR h M p))
theorem subB_refl (p : List Str) : subB p p = true := List.all_eq_true.mpr fun k hk => decide_eq_true hk
theorem inn_nil (h : Hs) (p : List Str) : [] ∈ inn h p := List.mem_filter.mpr ⟨bsets_nil, rfl⟩
theorem inn_self {h : Hs} {p : List Str} (hp : p ∈ bsets h) : p ∈ inn h p := List.mem_filter.mpr ⟨hp, subB_refl p⟩
theorem inn_ne (h : Hs) (p : List Str) : inn h p ≠ [] := fun e => by
  have := inn_nil h p
  rw [e] at this
  exact absurd this List.not_mem_nil
theorem inn_b {h : Hs} {p q : List Str} (hq : q ∈ inn h p) : q ∈ bsets h := (List.mem_filter.mp hq).1
theorem inn_nd {h : Hs} (nk : h.ks.Nodup) (p : List Str) : (inn h p).Nodup := (bsets_nd nk).sublist List.filter_sublist
theorem inn_len {h : Hs} (sm : Small h) (p : List Str) : (inn h p).length ≤ 64 := Nat.le_trans (List.length_filter_le _ _) (bsets_len sm)
theorem fstMap {α : Type} (f : α → List Str) (r : α → Dat) (l : List α) : (l.map fun p => (tS (f p), r p)).map (·.1) = l.map fun p => tS (f p) := by
  rw [List.map_map]; rfl
theorem takePutT {l : List (List Str)} (nd : l.Nodup) (r : List Str → Dat) {j : Nat} {z : List Str} (hz : l[j]? = some z) : dputT ((l.take j).map fun p => (tS p, r p)) (z.map Sum.inr) (r z) = (l.take (j + 1)).map fun p => (tS p, r p) := by
  rw [dputT_new, List.take_add_one, hz, Option.toList_some, List.map_append]
  · rw [tK_S]; rfl
  · intro p hp
    obtain ⟨k, hk, rfl⟩ := List.mem_map.mp hp
    refine ⟨k.map Sum.inr, (tK_S k).symm, fun e => ?_⟩
    have e := (List.map_inj_right (fun a b z => Sum.inr.inj z)).mp e
    subst e
    obtain ⟨i, hi, e⟩ := List.mem_take_iff_getElem.mp hk
    have hz2 := (List.getElem?_eq_some_iff.mp hz).2
    have := (List.getElem_inj nd).mp (e.trans hz2.symm)
    omega
theorem takePutK {l : List Str} (nd : l.Nodup) (r : Str → Dat) {j : Nat} {z : Str} (hz : l[j]? = some z) : dputK ((l.take j).map fun p => (.str p, r p)) (.inr z) (r z) = (l.take (j + 1)).map fun p => (.str p, r p) := by
  rw [dputK_new, List.take_add_one, hz, Option.toList_some, List.map_append]
  · rfl
  · intro p hp
    obtain ⟨k, hk, rfl⟩ := List.mem_map.mp hp
    refine ⟨.inr k, rfl, fun e => ?_⟩
    cases e
    obtain ⟨i, hi, e⟩ := List.mem_take_iff_getElem.mp hk
    have hz2 := (List.getElem?_eq_some_iff.mp hz).2
    have := (List.getElem_inj nd).mp (e.trans hz2.symm)
    omega
theorem takeLen {α : Type} {l : List α} {n : Nat} (h : l.length ≤ n) (j : Nat) : (l.take j).length ≤ n := Nat.le_trans (by rw [List.length_take]; exact Nat.min_le_right _ _) h
section
variable {P : Program} {w : World} {K : PySem.W.Frag} {mg : Str → Option Value} {base : Heap} {k : Nat}
/-! ### sets_within -/
def rSw : List Dat → Dat → Prop := fun ds d => ∃ h : Hs, Small h ∧ h.ks.Nodup ∧ ds = [.list ((bsets h).map tS)] ∧ d = innD h
def nSw : List Str := ["sets", "other", "part"]
theorem scSw : FnScope nSw ["sets"] (defScope (top 24)) := ⟨rfl, rfl, rfl, by decide +kernel, rfl, by decide +kernel, by decide +kernel⟩
theorem okSw (B : Bs K mg) (F : Stands K mg "sets_within" (top 24)) (wi : Has P w K mg base 1 "within" (PurSp K rWithin)) : Has P w K mg base 2 "sets_within" (PurSp K rSw) := by
  refine Has.pur F B scSw (fun _ _ _ _ _ _ us hl => match us, hl with | [_], _ => rfl) (fun ds d ⟨_, _, _, e, _⟩ => by rw [e]; rfl) fun ds d ⟨h, sm, nk, hds, hd⟩ f cdv A outer s H g hr => ?_
  subst hds hd
  have nd := scSw.nd
  have bn := bsets_nd nk
  have e0 : keptT (fun _ => true) keysOf (fun d => innR h (ssOf d)) ((bsets h).map tS) = (bsets h).map fun p => (tS p, innR h p) := by
    rw [keptT_S bn]
    exact List.map_congr_left fun p _ => by show (tS p, innR h (ssOf (tS p))) = _; rw [ssOf_tS]
  refine Run.one (RunS.retP (d := innD h) ?_ rfl)
  refine EvP.cast (EvP.dictT (own := [("part", 2)]) (ds := (bsets h).map tS) (b := fun _ => true) (kf := keysOf) (r := fun d => innR h (ssOf d)) (f := fun d => [.im (.list ((bsets h).map tS)), .no, .im d]) g nd (blkOk_by (N := nSw) (sc := defScope (top 24)) (by decide +kernel))
    (.list (.var (i := 0) rfl)) (fun d hd s H C cl fp => AsDV.name (i := 2) nd) (fun d hd s H C cl fp => ?_) (fun d hd _ s H C cl fp => ?_) (fun d hd _ s H C cl fp => ?_) ?_ ?_) (congrArg Dat.dict e0)
  · rfl
  · obtain ⟨p, hp, rfl⟩ := List.mem_map.mp hd
    refine EvP.cast (.var (i := 2) rfl) ?_
    show tS p = tK ((ssOf (tS p)).map Sum.inr)
    rw [ssOf_tS, tK_S]
  · obtain ⟨p, hp, rfl⟩ := List.mem_map.mp hd
    have e1 : keptT (fun d => subB (ssOf d) p) keysOf (fun _ => .bool true) ((bsets h).map tS) = (inn h p).map fun q => (tS q, .bool true) := keptT_SF (b := fun q => subB q p) bn
    refine EvP.cast (EvP.dictT (own := [("other", 1)]) (ds := (bsets h).map tS) (b := fun d => subB (ssOf d) p) (kf := keysOf) (r := fun _ => .bool true) (f := fun d => [.im (.list ((bsets h).map tS)), .im d, .im (tS p)]) g.blk nd (blkIn (N := nSw) (sc := defScope (top 24)) (by decide +kernel))
      (.list (.var (i := 0) rfl)) (fun d hd s H C cl fp => AsDV.name (i := 1) nd) (fun d hd s H C cl fp => ?_) (fun d hd _ s H C cl fp => ?_) (fun d hd _ s H C cl fp => .bl) ?_ ?_) ?_
    · obtain ⟨q, hq, rfl⟩ := List.mem_map.mp hd
      refine EvTP.val (EvP.own g.blk.blk wi hr (.cons (.var (i := 1) rfl) (.cons (.var (i := 2) rfl) .nil)) ⟨q, p, .inl rfl, ?_, ?_⟩)
      · have := bsets_each sm hq; omega
      · show Dat.bool (subB (ssOf (tS q)) p) = _
        rw [ssOf_tS]; rfl
    · obtain ⟨q, hq, rfl⟩ := List.mem_map.mp hd
      refine EvP.cast (.var (i := 1) rfl) ?_
      show tS q = tK ((ssOf (tS q)).map Sum.inr)
      rw [ssOf_tS, tK_S]
    · rw [List.length_map]; have := bsets_len sm; omega
    · rw [e1]
      simpa using inn_ne h p
    · rw [e1]
      show innR h p = innR h (ssOf (tS p))
      rw [ssOf_tS]
  · rw [List.length_map]; have := bsets_len sm; omega
  · rw [e0]
    simpa using bsets_ne
/-! ### no_brief -/
def zeroM : List Str → List Str → Int := fun _ _ => 0
def rNb : List Dat → Dat → Prop := fun ds d => ∃ h : Hs, Small h ∧ h.ks.Nodup ∧ ds = [innD h] ∧ d = brfD h zeroM
def nNb : List Str := ["inner", "other", "part"]
theorem scNb : FnScope nNb ["inner"] (defScope (top 25)) := ⟨rfl, rfl, rfl, by decide +kernel, rfl, by decide +kernel, by decide +kernel⟩
theorem okNb (B : Bs K mg) (F : Stands K mg "no_brief" (top 25)) : Has P w K mg base 1 "no_brief" (PurSp K rNb) := by
  refine Has.pur F B scNb (fun _ _ _ _ _ _ us hl => match us, hl with | [_], _ => rfl) (fun ds d ⟨_, _, _, e, _⟩ => by rw [e]; rfl) fun ds d ⟨h, sm, nk, hds, hd⟩ f cdv A outer s H g hr => ?_
  subst hds hd
  have nd := scNb.nd
  have bn := bsets_nd nk
  have k0 : ((bsets h).map fun p => (tS p, innR h p)).map (·.1) = (bsets h).map tS := fstMap id _ _
  have e0 : keptT (fun _ => true) keysOf (fun d => brfR h zeroM (ssOf d)) ((bsets h).map tS) = (bsets h).map fun p => (tS p, brfR h zeroM p) := by
    rw [keptT_S bn]
    exact List.map_congr_left fun p _ => by show (tS p, brfR h zeroM (ssOf (tS p))) = _; rw [ssOf_tS]
  refine Run.one (RunS.retP (d := brfD h zeroM) ?_ rfl)
  refine EvP.cast (EvP.dictTL (own := [("part", 2)]) (ps := (bsets h).map fun p => (tS p, innR h p)) (b := fun _ => true) (kf := keysOf) (r := fun d => brfR h zeroM (ssOf d)) (f := fun d => [.im (innD h), .no, .im d]) g nd (blkOk_by (N := nNb) (sc := defScope (top 25)) (by decide +kernel))
    (EvV.var (i := 0) rfl) (.inl (tupsS id _ bsets_ne)) (fun d hd s H C cl fp => AsDV.name (i := 2) nd) (fun d hd s H C cl fp => ?_) (fun d hd _ s H C cl fp => ?_) (fun d hd _ s H C cl fp => ?_) ?_ ?_) (by rw [k0]; exact congrArg Dat.dict e0)
  · rfl
  · rw [k0] at hd
    obtain ⟨p, hp, rfl⟩ := List.mem_map.mp hd
    refine EvP.cast (.var (i := 2) rfl) ?_
    show tS p = tK ((ssOf (tS p)).map Sum.inr)
    rw [ssOf_tS, tK_S]
  · rw [k0] at hd
    obtain ⟨p, hp, rfl⟩ := List.mem_map.mp hd
    have k1 : ((inn h p).map fun p => (tS p, Dat.bool true)).map (·.1) = (inn h p).map tS := fstMap id _ _
    have e1 : keptT (fun _ => true) keysOf (fun _ => .int 0) ((inn h p).map tS) = (inn h p).map fun q => (tS q, .int (zeroM p q)) := keptT_S (inn_nd nk p)
    refine EvP.cast (EvP.dictTL (own := [("other", 1)]) (ps := (inn h p).map fun p => (tS p, Dat.bool true)) (b := fun _ => true) (kf := keysOf) (r := fun _ => .int 0) (f := fun d => [.im (innD h), .im d, .im (tS p)]) g.blk nd (blkIn (N := nNb) (sc := defScope (top 25)) (by decide +kernel))
      (EvV.dgetT g.blk (k := p.map Sum.inr) (EvV.var (i := 0) rfl) (EvP.cast (.var (i := 2) rfl) (tK_S p).symm) (tupsS id (innR h) bsets_ne) (dlookT_S (innR h) hp)) (.inl (tupsS id _ (inn_ne h p))) (fun d hd s H C cl fp => AsDV.name (i := 1) nd) (fun d hd s H C cl fp => ?_) (fun d hd _ s H C cl fp => ?_) (fun d hd _ s H C cl fp => .int) ?_ ?_) ?_
    · rfl
    · rw [k1] at hd
      obtain ⟨q, hq, rfl⟩ := List.mem_map.mp hd
      refine EvP.cast (.var (i := 1) rfl) ?_
      show tS q = tK ((ssOf (tS q)).map Sum.inr)
      rw [ssOf_tS, tK_S]
    · rw [List.length_map]; have := inn_len sm p; omega
    · rw [k1, e1]
      simpa using inn_ne h p
    · rw [k1, e1]
      show brfR h zeroM p = brfR h zeroM (ssOf (tS p))
      rw [ssOf_tS]
  · rw [List.length_map]; have := bsets_len sm; omega
  · rw [k0, e0]
    simpa using bsets_ne
end
end K94
end

/-! text WH -/
section
set_option Elab.async false
set_option autoImplicit false
set_option linter.all false
set_option maxRecDepth 100000
set_option maxHeartbeats 4000000
/-! one deed more -/
namespace K94
open PySem PySem.Spec PyProof.Rows L2

inductive Deed where
  | put (k : Str)
  | call (c : List Str)
def Deed.dat : Deed → Dat
  | .put k => .tuple [.str "put", .str k]
  | .call c => .tuple [.str "call", cD c]
def dropC (p c : List Str) : List Str := p.filter fun k => !decide (k ∈ c)
def lessN (p r : List Str) : Int := if decide (((dS r).length : Int) < ((dS p).length : Int)) = true then 1 else 0
def led (h : Hs) (M : List Str → List Str → Int) : Deed → List Str → List Str → Int
  | .put k, p, q => M p q + (if decide (k ∈ p) = true then 1 else 0)
  | .call c, p, q => max (M p q - lessN p (dropC p c)) (if q ∈ inn h (dropC p c) then M (dropC p c) q else M p q - lessN p (dropC p c))
def DeedOk (h : Hs) : Deed → Prop
  | .put k => k ∈ h.ks
  | .call c => c ∈ h.cs
section
variable {P : Program} {w : World} {K : PySem.W.Frag} {mg : Str → Option Value} {base : Heap} {k : Nat}
def rLed : List Dat → Dat → Prop := fun ds d => ∃ (h : Hs) (M : List Str → List Str → Int) (D : Deed), Small h ∧ h.ks.Nodup ∧ (∀ c, D = .call c → ∀ p ∈ bsets h, dropC p c ∈ bsets h) ∧ ds = [innD h, brfD h M, D.dat] ∧ d = brfD h (led h M D)
def nLed : List Str := ["inner", "brief", "deed", "found", "part", "row", "other", "rest", "kind", "less", "bare"]
theorem scLed : FnScope nLed ["inner", "brief", "deed"] (defScope (top 26)) := ⟨rfl, rfl, rfl, by decide +kernel, rfl, by decide +kernel, by decide +kernel⟩
theorem okLed (B : Bs K mg) (F : Stands K mg "led_on" (top 26)) (pt : ∃ t, mg "PUT" = some (.str "put" t)) : Has P w K mg base 1 "led_on" (PurSp K rLed) := by
  refine Has.pur F B scLed (fun _ _ _ _ _ _ us hl => match us, hl with | [_, _, _], _ => rfl) (fun ds d ⟨_, _, _, _, _, _, e, _⟩ => by rw [e]; rfl) fun ds d ⟨h, M, D, sm, nk, hD, hds, hd⟩ f cdv A outer s H g hr => ?_
  subst hds hd
  have nd := scLed.nd
  have bn := bsets_nd nk
  have k0 : ((bsets h).map fun p => (tS p, innR h p)).map (·.1) = (bsets h).map tS := fstMap id _ _
  refine Run.cons (RunS.set (i := 3) (Ev.newT fun q => ?_) nd)
  refine Run.cons (RunS.forD (ps := (bsets h).map fun p => (tS p, innR h p)) (EvV.var (i := 0) rfl) (.inl (tupsS id _ bsets_ne))
    (fun j δ' => ∃ x4 x5 x7 x9 x10, δ' = [.im (innD h), .im (brfD h M), .im D.dat, .ow q (.t (((bsets h).take j).map fun p => (tS p, brfR h (led h M D) p))), x4, x5, .no, x7, .no, x9, x10]) ⟨_, _, _, _, _, rfl⟩ ⟨fun j d δ' hj ⟨x4, x5, x7, x9, x10, e⟩ => ?_, fun δ' ⟨x4, x5, x7, x9, x10, e⟩ => ?_⟩ rfl)
  · subst e
    rw [k0, List.getElem?_map] at hj
    obtain ⟨p, hp, rfl⟩ := Option.map_eq_some_iff.mp hj
    have hpb : p ∈ bsets h := List.mem_of_getElem? hp
    have next := takePutT bn (brfR h (led h M D)) hp
    have lt := takeLen (bsets_len sm) j
    have k1 : ((inn h p).map fun q => (tS q, Dat.int (M p q))).map (·.1) = (inn h p).map tS := fstMap id _ _
    refine ⟨_, AsD.name (i := 4) nd, ?_⟩
    refine Run.cons (RunS.setP (i := 5) (d := brfR h M p) (EvP.dgetT g (k := p.map Sum.inr) (.var (i := 1) rfl) (EvP.cast (.var (i := 4) rfl) (tK_S p).symm) (tupsS id (brfR h M) bsets_ne) (dlookT_S (brfR h M) hpb)) ?_ nd)
    cases D with
    | put z =>
      have e1 : keptT (fun _ => true) keysOf (fun d => .int (M p (ssOf d) + (if decide (z ∈ p) = true then 1 else 0))) ((inn h p).map tS) = (inn h p).map fun q => (tS q, .int (led h M (.put z) p q)) := by
        rw [keptT_S (inn_nd nk p)]
        exact List.map_congr_left fun q _ => by show (tS q, Dat.int (M p (ssOf (tS q)) + _)) = _; rw [ssOf_tS]; rfl
      refine Run.one (RunS.if_ (EvTP.t (c := decide (("put" : Str) = "put")) (EvTP.cmp (EvP.ix (.var (i := 2) rfl) .int (Ix2.tup atI0)) (EvP.globStr pt) Cmp2.eqS) ?_))
      rw [if_pos (by decide)]
      refine Run.one (RunS.putT (i := 3) (q := q) (EvP.i (d := brfR h (led h M (.put z)) p) ?_ ⟨_, p.map Sum.inr, rfl, EvP.cast (.var (i := 4) rfl) (tK_S p).symm, ?_, ?_⟩) g)
      · refine EvP.cast (EvP.dictTL (own := [("other", 6)]) (ps := (inn h p).map fun q => (tS q, Dat.int (M p q))) (b := fun _ => true) (kf := keysOf) (r := fun d => .int (M p (ssOf d) + (if decide (z ∈ p) = true then 1 else 0))) (f := fun d => [.im (innD h), .im (brfD h M), .im (Deed.put z).dat, .ow q (.t (((bsets h).take j).map fun p => (tS p, brfR h (led h M (.put z)) p))), .im (tS p), .im (brfR h M p), .im d, x7, .no, x9, x10]) g nd (blkOk_by (N := nLed) (sc := defScope (top 26)) (by decide +kernel))
          (EvV.var (i := 5) rfl) (.inl (tupsS id _ (inn_ne h p))) (fun d hd s H C cl fp => AsDV.name (i := 6) nd) (fun d hd s H C cl fp => ?_) (fun d hd _ s H C cl fp => ?_) (fun d hd _ s H C cl fp => ?_) ?_ ?_) ?_
        · rfl
        · rw [k1] at hd
          obtain ⟨o, ho, rfl⟩ := List.mem_map.mp hd
          refine EvP.cast (.var (i := 6) rfl) ?_
          show tS o = tK ((ssOf (tS o)).map Sum.inr)
          rw [ssOf_tS, tK_S]
        · rw [k1] at hd
          obtain ⟨o, ho, rfl⟩ := List.mem_map.mp hd
          rw [ssOf_tS]
          exact EvP.bin (EvP.dgetT g.blk (k := o.map Sum.inr) (.var (i := 5) rfl) (EvP.cast (.var (i := 6) rfl) (tK_S o).symm) (tupsS id (fun q => .int (M p q)) (inn_ne h p)) (dlookT_S (fun q => .int (M p q)) ho)) (EvP.callT (T := "int") (.cons (EvP.cmp (EvP.ix (.var (i := 2) rfl) .int (Ix2.tup atI1)) (.var (i := 4) rfl) Cmp2.inTS) .nil) CallD.intB (B.free _ (by decide))) Op2.add
        · rw [List.length_map]; have := inn_len sm p; omega
        · rw [k1, e1]
          simpa using inn_ne h p
        · rw [k1, e1]; rfl
      · rw [List.length_map]; omega
      · exact ⟨.im (tS p), .im (brfR h M p), x7, x9, x10, by rw [← next]; rfl⟩
    | call c =>
      have hr2 : dropC p c ∈ bsets h := hD c rfl p hpb
      have e1 : keptT (fun _ => true) keysOf (fun d => .int (led h M (.call c) p (ssOf d))) ((inn h p).map tS) = (inn h p).map fun q => (tS q, .int (led h M (.call c) p q)) := by
        rw [keptT_S (inn_nd nk p)]
        exact List.map_congr_left fun q _ => by show (tS q, Dat.int (led h M (.call c) p (ssOf (tS q)))) = _; rw [ssOf_tS]
      refine Run.one (RunS.if_ (EvTP.t (c := decide (("call" : Str) = "put")) (EvTP.cmp (EvP.ix (.var (i := 2) rfl) .int (Ix2.tup atI0)) (EvP.globStr pt) Cmp2.eqS) ?_))
      rw [if_neg (by decide)]
      refine Run.cons (RunS.setP (i := 7) (d := tS (dropC p c)) (EvP.callT (T := "tuple") (.cons (d := lS (dropC p c)) ?_ .nil) CallD.tupL (B.free _ (by decide))) ?_ nd)
      · refine EvP.cast (EvP.comp (own := [("kind", 8)]) (ds := dS p) (b := fun d => !decide (sOf d ∈ c)) (r := id) (f := fun d => [.im (innD h), .im (brfD h M), .im (Deed.call c).dat, .ow q (.t (((bsets h).take j).map fun p => (tS p, brfR h (led h M (.call c)) p))), .im (tS p), .im (brfR h M p), .no, x7, .im d, x9, x10]) rfl nd (blkOk_by (N := nLed) (sc := defScope (top 26)) (by decide +kernel))
          (.tup (.var (i := 4) rfl)) (fun d hd s H C cl fp => AsDV.name (i := 8) nd) (fun d hd s H C cl fp => ?_) (fun d hd _ s H C cl fp => .var (i := 8) rfl) (len1000 (by have := bsets_each sm hpb; omega) _)) ?_
        · obtain ⟨o, ho, rfl⟩ := List.mem_map.mp hd
          exact EvTP.cmp (.var (i := 8) rfl) (EvP.ix (.var (i := 2) rfl) .int (Ix2.tup atI1)) Cmp2.notInFS
        · exact congrArg Dat.list (keptS (fun o => !decide (o ∈ c)) id Dat.str (fun _ => rfl) _)
      refine Run.cons (RunS.par2C (i := 9) (j := 10) (EvP.ev (d := .int (lessN p (dropC p c))) ?_ (EvP.ev (d := brfR h M (dropC p c)) ?_ ?_)) rfl nd)
      · exact EvP.callT (T := "int") (.cons (EvP.cmp (EvP.callB (fid := "len") (.cons (.var (i := 7) rfl) .nil) CallD.lenT (B.free _ (by decide))) (EvP.callB (fid := "len") (.cons (.var (i := 4) rfl) .nil) CallD.lenT (B.free _ (by decide))) Cmp2.lt) .nil) CallD.intB (B.free _ (by decide))
      · exact EvP.dgetT g (k := (dropC p c).map Sum.inr) (.var (i := 1) rfl) (EvP.cast (.var (i := 7) rfl) (tK_S _).symm) (tupsS id (brfR h M) bsets_ne) (dlookT_S (brfR h M) hr2)
      refine Run.one (RunS.putT (i := 3) (q := q) (EvP.i (d := brfR h (led h M (.call c)) p) ?_ ⟨_, p.map Sum.inr, rfl, EvP.cast (.var (i := 4) rfl) (tK_S p).symm, ?_, ?_⟩) g)
      · refine EvP.cast (EvP.dictTL (own := [("other", 6)]) (ps := (inn h p).map fun q => (tS q, Dat.int (M p q))) (b := fun _ => true) (kf := keysOf) (r := fun d => .int (led h M (.call c) p (ssOf d))) (f := fun d => [.im (innD h), .im (brfD h M), .im (Deed.call c).dat, .ow q (.t (((bsets h).take j).map fun p => (tS p, brfR h (led h M (.call c)) p))), .im (tS p), .im (brfR h M p), .im d, .im (tS (dropC p c)), .no, .im (.int (lessN p (dropC p c))), .im (brfR h M (dropC p c))]) g nd (blkOk_by (N := nLed) (sc := defScope (top 26)) (by decide +kernel))
          (EvV.var (i := 5) rfl) (.inl (tupsS id _ (inn_ne h p))) (fun d hd s H C cl fp => AsDV.name (i := 6) nd) (fun d hd s H C cl fp => ?_) (fun d hd _ s H C cl fp => ?_) (fun d hd _ s H C cl fp => ?_) ?_ ?_) ?_
        · rfl
        · rw [k1] at hd
          obtain ⟨o, ho, rfl⟩ := List.mem_map.mp hd
          refine EvP.cast (.var (i := 6) rfl) ?_
          show tS o = tK ((ssOf (tS o)).map Sum.inr)
          rw [ssOf_tS, tK_S]
        · rw [k1] at hd
          obtain ⟨o, ho, rfl⟩ := List.mem_map.mp hd
          rw [ssOf_tS]
          have e3 : (dlookT ((inn h (dropC p c)).map fun q => (tS q, Dat.int (M (dropC p c) q))) (o.map Sum.inr)).getD (.int (M p o - lessN p (dropC p c))) = .int (if o ∈ inn h (dropC p c) then M (dropC p c) o else M p o - lessN p (dropC p c)) := by
            by_cases ho2 : o ∈ inn h (dropC p c)
            · rw [dlookT_S (fun q => .int (M (dropC p c) q)) ho2, if_pos ho2]; rfl
            · rw [dlookT_Sn (fun q => .int (M (dropC p c) q)) ho2, if_neg ho2]; rfl
          exact EvP.callB (fid := "max") (.cons (EvP.bin (EvP.dgetT g.blk (k := o.map Sum.inr) (.var (i := 5) rfl) (EvP.cast (.var (i := 6) rfl) (tK_S o).symm) (tupsS id (fun q => .int (M p q)) (inn_ne h p)) (dlookT_S (fun q => .int (M p q)) ho)) (.var (i := 9) rfl) Op2.sub) (.cons (EvP.cast (EvP.getT g.blk (k := o.map Sum.inr) (.var (i := 10) rfl) (EvP.cast (.var (i := 6) rfl) (tK_S o).symm) (EvP.bin (EvP.dgetT g.blk (k := o.map Sum.inr) (.var (i := 5) rfl) (EvP.cast (.var (i := 6) rfl) (tK_S o).symm) (tupsS id (fun q => .int (M p q)) (inn_ne h p)) (dlookT_S (fun q => .int (M p q)) ho)) (.var (i := 9) rfl) Op2.sub) (tupsS id (fun q => .int (M (dropC p c) q)) (inn_ne h _))) e3) .nil)) (CallD.max2 g.blk) (B.free _ (by decide))
        · rw [List.length_map]; have := inn_len sm p; omega
        · rw [k1, e1]
          simpa using inn_ne h p
        · rw [k1, e1]; rfl
      · rw [List.length_map]; omega
      · exact ⟨.im (tS p), .im (brfR h M p), .im (tS (dropC p c)), .im (.int (lessN p (dropC p c))), .im (brfR h M (dropC p c)), by rw [← next]; rfl⟩
  · subst e
    rw [k0, List.length_map, List.take_length]
    refine Run.one (RunS.ret (Ev.giveVarT (i := 3) rfl ?_ rfl))
    simpa using bsets_ne
end
end K94
end

/-! text WI -/
section
set_option Elab.async false
set_option autoImplicit false
set_option linter.all false
set_option maxRecDepth 100000
set_option maxHeartbeats 4000000
/-! briefs put together -/
namespace K94
open PySem PySem.Spec PyProof.Rows L2

def mxI : List Int → Int
  | [] => 0
  | [a] => a
  | a :: b :: l => max a (mxI (b :: l))
theorem mxI_mem : ∀ {l : List Int}, l ≠ [] → mxI l ∈ l
  | [], h => absurd rfl h
  | [a], _ => List.mem_singleton.mpr rfl
  | a :: b :: l, _ => by
    show max a (mxI (b :: l)) ∈ _
    rcases Int.le_total a (mxI (b :: l)) with h | h
    · rw [Int.max_eq_right h]; exact List.mem_cons_of_mem _ (mxI_mem (by simp))
    · rw [Int.max_eq_left h]; exact List.mem_cons_self
theorem mxI_le : ∀ {l : List Int} {y : Int}, y ∈ l → y ≤ mxI l
  | [], _, h => absurd h List.not_mem_nil
  | [a], y, h => by rw [List.mem_singleton.mp h]; exact Int.le_refl _
  | a :: b :: l, y, h => by
    show y ≤ max a (mxI (b :: l))
    rcases List.mem_cons.mp h with rfl | h
    · exact Int.le_max_left _ _
    · exact Int.le_trans (mxI_le h) (Int.le_max_right _ _)
def mids (h : Hs) (p q : List Str) : List (List Str) := (inn h p).filter fun m => decide (q ∈ inn h m)
def jn (h : Hs) (M1 M2 : List Str → List Str → Int) (p q : List Str) : Int := mxI ((mids h p q).map fun m => M2 p m + M1 m q)
theorem mids_self {h : Hs} {p q : List Str} (hp : p ∈ bsets h) (hq : q ∈ inn h p) : p ∈ mids h p q := List.mem_filter.mpr ⟨inn_self hp, decide_eq_true hq⟩
theorem dinSome (h : Hs) (p q : List Str) (r : List Str → Dat) : (dlookT ((inn h p).map fun q => (tS q, r q)) (q.map Sum.inr)).isSome = decide (q ∈ inn h p) := by
  by_cases hq : q ∈ inn h p
  · rw [dlookT_S r hq]; simp [hq]
  · rw [dlookT_Sn r hq]; simp [hq]
section
variable {P : Program} {w : World} {K : PySem.W.Frag} {mg : Str → Option Value} {base : Heap} {k : Nat}
/-! ### joined_by -/
def rJb : List Dat → Dat → Prop := fun ds d => ∃ (h : Hs) (M1 M2 : List Str → List Str → Int), Small h ∧ h.ks.Nodup ∧ ds = [innD h, brfD h M1, brfD h M2] ∧ d = brfD h (jn h M1 M2)
def nJb : List Str := ["inner", "one", "other", "found", "part", "row", "least", "mid"]
theorem scJb : FnScope nJb ["inner", "one", "other"] (defScope (top 27)) := ⟨rfl, rfl, rfl, by decide +kernel, rfl, by decide +kernel, by decide +kernel⟩
theorem okJb (B : Bs K mg) (F : Stands K mg "joined_by" (top 27)) : Has P w K mg base 1 "joined_by" (PurSp K rJb) := by
  refine Has.pur F B scJb (fun _ _ _ _ _ _ us hl => match us, hl with | [_, _, _], _ => rfl) (fun ds d ⟨_, _, _, _, _, e, _⟩ => by rw [e]; rfl) fun ds d ⟨h, M1, M2, sm, nk, hds, hd⟩ f cdv A outer s H g hr => ?_
  subst hds hd
  have nd := scJb.nd
  have bn := bsets_nd nk
  have k0 : ((bsets h).map fun p => (tS p, innR h p)).map (·.1) = (bsets h).map tS := fstMap id _ _
  have kR : ∀ p, ((inn h p).map fun p => (tS p, Dat.bool true)).map (·.1) = (inn h p).map tS := fun p => fstMap id _ _
  refine Run.cons (RunS.set (i := 3) (Ev.newT fun q => ?_) nd)
  refine Run.cons (RunS.forD (ps := (bsets h).map fun p => (tS p, innR h p)) (EvV.var (i := 0) rfl) (.inl (tupsS id _ bsets_ne))
    (fun j δ' => ∃ x4 x5 x6, δ' = [.im (innD h), .im (brfD h M1), .im (brfD h M2), .ow q (.t (((bsets h).take j).map fun p => (tS p, brfR h (jn h M1 M2) p))), x4, x5, x6, .no] ∧ feetC x5 = []) ⟨_, _, _, rfl, rfl⟩ ⟨fun j d δ' hj ⟨x4, x5, x6, e, fe⟩ => ?_, fun δ' ⟨x4, x5, x6, e, fe⟩ => ?_⟩ rfl)
  · subst e
    rw [k0, List.getElem?_map] at hj
    obtain ⟨p, hp, rfl⟩ := Option.map_eq_some_iff.mp hj
    have hpb : p ∈ bsets h := List.mem_of_getElem? hp
    have next := takePutT bn (brfR h (jn h M1 M2)) hp
    have lt := takeLen (bsets_len sm) j
    refine ⟨_, AsD.name (i := 4) nd, ?_⟩
    refine Run.cons (RunS.set (i := 5) (Ev.newT fun r => ?_) nd)
    refine Run.cons (RunS.forD (ps := (inn h p).map fun p => (tS p, Dat.bool true)) (EvV.dgetT g (k := p.map Sum.inr) (EvV.var (i := 0) rfl) (EvP.cast (.var (i := 4) rfl) (tK_S p).symm) (tupsS id (innR h) bsets_ne) (dlookT_S (innR h) hpb)) (.inl (tupsS id _ (inn_ne h p)))
      (fun j2 δ' => ∃ x6, δ' = [.im (innD h), .im (brfD h M1), .im (brfD h M2), .ow q (.t (((bsets h).take j).map fun p => (tS p, brfR h (jn h M1 M2) p))), .im (tS p), .ow r (.t (((inn h p).take j2).map fun q => (tS q, .int (jn h M1 M2 p q)))), x6, .no]) ⟨_, rfl⟩ ⟨fun j2 d δ' hj2 ⟨x6, e⟩ => ?_, fun δ' ⟨x6, e⟩ => ?_⟩ rfl)
    · subst e
      rw [kR, List.getElem?_map] at hj2
      obtain ⟨l, hl, rfl⟩ := Option.map_eq_some_iff.mp hj2
      have hlb : l ∈ inn h p := List.mem_of_getElem? hl
      have next2 := takePutT (inn_nd nk p) (fun q => .int (jn h M1 M2 p q)) hl
      refine ⟨_, AsD.name (i := 6) nd, ?_⟩
      refine Run.one (RunS.putT (i := 5) (q := r) (EvP.i (d := .int (jn h M1 M2 p l)) ?_ ⟨_, l.map Sum.inr, rfl, EvP.cast (.var (i := 6) rfl) (tK_S l).symm, ?_, ?_⟩) g)
      · refine EvP.callB (fid := "max") (.cons (d := .list (((mids h p l).map fun m => M2 p m + M1 m l).map Dat.int)) ?_ .nil) (CallD.max g (mxI_mem ?_) fun y hy => mxI_le hy) (B.free _ (by decide))
        · refine EvP.cast (EvP.compL (own := [("mid", 7)]) (ps := (inn h p).map fun p => (tS p, Dat.bool true)) (b := fun d => decide (l ∈ inn h (ssOf d))) (r := fun d => .int (M2 p (ssOf d) + M1 (ssOf d) l)) (f := fun d => [.im (innD h), .im (brfD h M1), .im (brfD h M2), .ow q (.t (((bsets h).take j).map fun p => (tS p, brfR h (jn h M1 M2) p))), .im (tS p), .ow r (.t (((inn h p).take j2).map fun q => (tS q, .int (jn h M1 M2 p q)))), .im (tS l), .im d]) rfl nd (blkOk_by (N := nJb) (sc := defScope (top 27)) (by decide +kernel))
            (EvV.dgetT g (k := p.map Sum.inr) (EvV.var (i := 0) rfl) (EvP.cast (.var (i := 4) rfl) (tK_S p).symm) (tupsS id (innR h) bsets_ne) (dlookT_S (innR h) hpb)) (.inl (tupsS id _ (inn_ne h p))) (fun d hd s H C cl fp => AsDV.name (i := 7) nd) (fun d hd s H C cl fp => ?_) (fun d hd hb s H C cl fp => ?_) (by rw [List.length_map]; have := inn_len sm p; omega)) ?_
          · rw [kR] at hd
            obtain ⟨m, hm, rfl⟩ := List.mem_map.mp hd
            show EvTP _ _ _ (decide (l ∈ inn h (ssOf (tS m))))
            rw [ssOf_tS, ← dinSome h m l fun _ => .bool true]
            exact EvTP.dinT g.blk (EvP.cast (.var (i := 6) rfl) (tK_S l).symm) (EvP.dgetT g.blk (k := m.map Sum.inr) (.var (i := 0) rfl) (EvP.cast (.var (i := 7) rfl) (tK_S m).symm) (tupsS id (innR h) bsets_ne) (dlookT_S (innR h) (inn_b hm))) (tupsS id (fun _ => .bool true) (inn_ne h m))
          · rw [kR] at hd
            obtain ⟨m, hm, rfl⟩ := List.mem_map.mp hd
            rw [ssOf_tS] at hb
            have hb := of_decide_eq_true hb
            rw [ssOf_tS]
            exact EvP.bin
              (EvP.dgetT g.blk (k := m.map Sum.inr) (EvP.dgetT g.blk (k := p.map Sum.inr) (.var (i := 2) rfl) (EvP.cast (.var (i := 4) rfl) (tK_S p).symm) (tupsS id (brfR h M2) bsets_ne) (dlookT_S (brfR h M2) hpb)) (EvP.cast (.var (i := 7) rfl) (tK_S m).symm) (tupsS id (fun q => .int (M2 p q)) (inn_ne h p)) (dlookT_S (fun q => .int (M2 p q)) hm))
              (EvP.dgetT g.blk (k := l.map Sum.inr) (EvP.dgetT g.blk (k := m.map Sum.inr) (.var (i := 1) rfl) (EvP.cast (.var (i := 7) rfl) (tK_S m).symm) (tupsS id (brfR h M1) bsets_ne) (dlookT_S (brfR h M1) (inn_b hm))) (EvP.cast (.var (i := 6) rfl) (tK_S l).symm) (tupsS id (fun q => .int (M1 m q)) (inn_ne h m)) (dlookT_S (fun q => .int (M1 m q)) hb)) Op2.add
          · rw [kR]
            unfold keptD
            rw [List.filter_map, List.map_map, List.map_map]
            have : ((fun d => decide (l ∈ inn h (ssOf d))) ∘ tS) = fun m => decide (l ∈ inn h m) := funext fun m => by show decide (l ∈ inn h (ssOf (tS m))) = _; rw [ssOf_tS]
            rw [this]
            refine congrArg Dat.list (List.map_congr_left fun m _ => ?_)
            show Dat.int (M2 p (ssOf (tS m)) + M1 (ssOf (tS m)) l) = _
            rw [ssOf_tS]; rfl
        · simpa using List.ne_nil_of_mem (mids_self hpb hlb)
      · rw [List.length_map]; have := takeLen (inn_len sm p) j2; omega
      · exact ⟨.im (tS l), by rw [← next2]; rfl⟩
    · subst e
      rw [kR, List.length_map, List.take_length]
      refine Run.one (RunS.putT (i := 3) (q := q) (Ev.toI (Ev.giveVarT (i := 5) rfl (by simpa using inn_ne h p) ⟨_, rfl, _, p.map Sum.inr, rfl, EvP.cast (.var (i := 4) rfl) (tK_S p).symm, ?_, ?_⟩)) g)
      · rw [List.length_map]; omega
      · exact ⟨.im (tS p), .no, x6, by rw [← next]; rfl, rfl⟩
  · subst e
    rw [k0, List.length_map, List.take_length]
    refine Run.one (RunS.ret (Ev.giveVarT (i := 3) rfl ?_ rfl))
    simpa using bsets_ne
/-! ### inner_sets -/
def rIs : List Dat → Dat → Prop := fun ds d => ∃ h : Hs, Small h ∧ h.ks.Nodup ∧ Nest h ∧ ds = [h.dat] ∧ d = innD h
def nIs : List Str := ["house"]
theorem scIs : FnScope nIs ["house"] (defScope (top 28)) := ⟨rfl, rfl, rfl, by decide +kernel, rfl, by decide +kernel, by decide +kernel⟩
theorem okIs (B : Bs K mg) (F : Stands K mg "inner_sets" (top 28)) (ne : Has P w K mg base 4 "need_nested" (PurSp K rNeed)) (bg : Has P w K mg base 2 "beginning_sets" (PurSp K rBeg)) (sw : Has P w K mg base 2 "sets_within" (PurSp K rSw)) : Has P w K mg base 5 "inner_sets" (PurSp K rIs) := by
  refine Has.pur F B scIs (fun _ _ _ _ _ _ us hl => match us, hl with | [_], _ => rfl) (fun ds d ⟨_, _, _, _, e, _⟩ => by rw [e]; rfl) fun ds d ⟨h, sm, nk, hn, hds, hd⟩ f cdv A outer s H g hr => ?_
  subst hds hd
  refine Run.cons (RunS.expr (EvP.ev (EvP.own g ne hr (.cons (.var (i := 0) rfl) .nil) ⟨h, sm, hn, rfl, rfl⟩) ?_))
  exact Run.one (RunS.retP (EvP.own g sw (hr.mono (by decide)) (.cons (EvP.own g bg (hr.mono (by decide)) (.cons (.var (i := 0) rfl) .nil) ⟨h, sm, nk, rfl, rfl⟩) .nil) ⟨h, sm, nk, rfl, rfl⟩) rfl)
/-! ### brief_of -/
def ledAll (h : Hs) (s : List Deed) : List Str → List Str → Int := s.foldl (led h) zeroM
def CallsOk (h : Hs) : Prop := ∀ c ∈ h.cs, ∀ p ∈ bsets h, dropC p c ∈ bsets h
def stD (s : List Deed) : Dat := .tuple (s.map Deed.dat)
def rBr : List Dat → Dat → Prop := fun ds d => ∃ (h : Hs) (s : List Deed), Small h ∧ h.ks.Nodup ∧ Nest h ∧ CallsOk h ∧ (∀ D ∈ s, DeedOk h D) ∧ ds = [h.dat, stD s] ∧ d = brfD h (ledAll h s)
def nBr : List Str := ["house", "stretch", "inner", "found", "deed"]
theorem scBr : FnScope nBr ["house", "stretch"] (defScope (top 29)) := ⟨rfl, rfl, rfl, by decide +kernel, rfl, by decide +kernel, by decide +kernel⟩
theorem okBr (B : Bs K mg) (F : Stands K mg "brief_of" (top 29)) (is_ : Has P w K mg base 5 "inner_sets" (PurSp K rIs)) (nb : Has P w K mg base 1 "no_brief" (PurSp K rNb)) (lo : Has P w K mg base 1 "led_on" (PurSp K rLed)) : Has P w K mg base 6 "brief_of" (PurSp K rBr) := by
  refine Has.pur F B scBr (fun _ _ _ _ _ _ us hl => match us, hl with | [_, _], _ => rfl) (fun ds d ⟨_, _, _, _, _, _, _, e, _⟩ => by rw [e]; rfl) fun ds d ⟨h, st, sm, nk, hn, hc, hs, hds, hd⟩ f cdv A outer s H g hr => ?_
  subst hds hd
  have nd := scBr.nd
  refine Run.cons (RunS.setP (i := 2) (EvP.own g is_ hr (.cons (.var (i := 0) rfl) .nil) ⟨h, sm, nk, hn, rfl, rfl⟩) ?_ nd)
  refine Run.cons (RunS.setP (i := 3) (EvP.own g nb (hr.mono (by decide)) (.cons (.var (i := 2) rfl) .nil) ⟨h, sm, nk, rfl, rfl⟩) ?_ nd)
  refine Run.cons (RunS.for_ ((EvItP.tup (.var (i := 1) rfl)).i ?_) rfl)
  refine ⟨fun j δ' => ∃ x, δ' = [.im h.dat, .im (stD st), .im (innD h), .im (brfD h (ledAll h (st.take j))), x], ⟨_, rfl⟩, fun j d δ' hj ⟨x, e⟩ => ?_, fun δ' ⟨x, e⟩ => ?_⟩
  · subst e
    rw [List.getElem?_map] at hj
    obtain ⟨D, hD, rfl⟩ := Option.map_eq_some_iff.mp hj
    have next := foldTake (led h) zeroM hD
    refine ⟨_, AsD.name (i := 4) nd, ?_⟩
    refine Run.one (RunS.setP (i := 3) (EvP.own g lo (hr.mono (by decide)) (.cons (.var (i := 2) rfl) (.cons (.var (i := 3) rfl) (.cons (.var (i := 4) rfl) .nil))) ⟨h, _, D, sm, nk, fun c e p hp => ?_, rfl, rfl⟩) ?_ nd)
    · have := hs D (List.mem_of_getElem? hD)
      rw [e] at this
      exact hc c this p hp
    · refine ⟨.im D.dat, ?_⟩
      unfold ledAll
      rw [next]; rfl
  · subst e
    rw [List.length_map, List.take_length]
    exact Run.one (RunS.retP (.var (i := 3) rfl) rfl)
/-! ### joined -/
def rJ : List Dat → Dat → Prop := fun ds d => ∃ (h : Hs) (M1 M2 : List Str → List Str → Int), Small h ∧ h.ks.Nodup ∧ Nest h ∧ ds = [h.dat, brfD h M1, brfD h M2] ∧ d = brfD h (jn h M1 M2)
def nJ : List Str := ["house", "one", "other"]
theorem scJ : FnScope nJ ["house", "one", "other"] (defScope (top 30)) := ⟨rfl, rfl, rfl, by decide +kernel, rfl, by decide +kernel, by decide +kernel⟩
theorem okJ (B : Bs K mg) (F : Stands K mg "joined" (top 30)) (is_ : Has P w K mg base 5 "inner_sets" (PurSp K rIs)) (jb : Has P w K mg base 1 "joined_by" (PurSp K rJb)) : Has P w K mg base 6 "joined" (PurSp K rJ) := by
  refine Has.pur F B scJ (fun _ _ _ _ _ _ us hl => match us, hl with | [_, _, _], _ => rfl) (fun ds d ⟨_, _, _, _, _, _, e, _⟩ => by rw [e]; rfl) fun ds d ⟨h, M1, M2, sm, nk, hn, hds, hd⟩ f cdv A outer s H g hr => ?_
  subst hds hd
  exact Run.one (RunS.retP (EvP.own g jb (hr.mono (by decide)) (.cons (EvP.own g is_ hr (.cons (.var (i := 0) rfl) .nil) ⟨h, sm, nk, hn, rfl, rfl⟩) (.cons (.var (i := 1) rfl) (.cons (.var (i := 2) rfl) .nil))) ⟨h, M1, M2, sm, nk, rfl, rfl⟩) rfl)
/-! ### acted_by -/
def actC (h : Hs) (M : List Str → List Str → Int) (am : Str → Int) (p : List Str) : Int := mxI ((inn h p).map fun q => (q.map am).sum + M p q)
def LbOk (h : Hs) (lb : Str → List Str) : Prop := ∀ k ∈ h.ks, LeastB h [k] (lb k) ∧ lb k ∈ bsets h ∧ lessK (lb k) k ∈ bsets h
def rAb : List Dat → Dat → Prop := fun ds d => ∃ (h : Hs) (M : List Str → List Str → Int) (ks : List Str) (am : Str → Int) (lb : Str → List Str), Small h ∧ h.ks.Nodup ∧ Nest h ∧ LbOk h lb ∧ (∀ k ∈ h.ks, k ∈ ks) ∧ ds = [h.dat, brfD h M, mD ks am] ∧ d = mD (sS h.ks) fun k => actC h M am (lb k) - actC h M am (lessK (lb k) k)
def nAb : List Str := ["house", "brief", "amounts", "inner", "ahead", "counts", "other", "part"]
theorem scAb : FnScope nAb ["house", "brief", "amounts"] (defScope (top 31)) := ⟨rfl, rfl, rfl, by decide +kernel, rfl, by decide +kernel, by decide +kernel⟩
theorem okAb (B : Bs K mg) (F : Stands K mg "acted_by" (top 31)) (is_ : Has P w K mg base 5 "inner_sets" (PurSp K rIs)) (co : Has P w K mg base 3 "counts_of" (PurSp K rCnts)) (ao : Has P w K mg base 3 "amounts_of" (PurSp K rAms)) : Has P w K mg base 6 "acted_by" (PurSp K rAb) := by
  refine Has.pur F B scAb (fun _ _ _ _ _ _ us hl => match us, hl with | [_, _, _], _ => rfl) (fun ds d ⟨_, _, _, _, _, _, _, _, _, _, e, _⟩ => by rw [e]; rfl) fun ds d ⟨h, M, ks, am, lb, sm, nk, hn, hlb, hks, hds, hd⟩ f cdv A outer s H g hr => ?_
  subst hds hd
  have nd := scAb.nd
  have bn := bsets_nd nk
  have k0 : ((bsets h).map fun p => (tS p, innR h p)).map (·.1) = (bsets h).map tS := fstMap id _ _
  have kR : ∀ p, ((inn h p).map fun p => (tS p, Dat.bool true)).map (·.1) = (inn h p).map tS := fun p => fstMap id _ _
  have e0 : keptT (fun _ => true) keysOf (fun d => .int (actC h M am (ssOf d))) ((bsets h).map tS) = (bsets h).map fun p => (tS p, .int (actC h M am p)) := by
    rw [keptT_S bn]
    exact List.map_congr_left fun p _ => by show (tS p, Dat.int (actC h M am (ssOf (tS p)))) = _; rw [ssOf_tS]
  refine Run.cons (RunS.par2C (i := 3) (j := 4) (EvP.ev (EvP.own g is_ hr (.cons (.var (i := 0) rfl) .nil) ⟨h, sm, nk, hn, rfl, rfl⟩) (EvP.ev (EvP.own g co (hr.mono (by decide)) (.cons (.var (i := 0) rfl) (.cons (.var (i := 2) rfl) .nil)) ⟨h, ks, am, sm, nk, hks, rfl, rfl⟩) ?_)) rfl nd)
  refine Run.cons (RunS.setDictTL (i := 5) (own := [("part", 7)]) (ps := (bsets h).map fun p => (tS p, innR h p)) (b := fun _ => true) (kf := keysOf) (r := fun d => .int (actC h M am (ssOf d))) (f := fun d => [.im h.dat, .im (brfD h M), .im (mD ks am), .im (innD h), .im (cntD h fun p => (p.map am).sum), .no, .no, .im d]) g nd (blkOk_by (N := nAb) (sc := defScope (top 31)) (by decide +kernel))
    (EvV.var (i := 3) rfl) (.inl (tupsS id _ bsets_ne)) (fun d hd s H C cl fp => AsDV.name (i := 7) nd) (fun d hd s H C cl fp => ?_) (fun d hd _ s H C cl fp => ?_) (fun d hd _ s H C cl fp => ?_) ?_ ?_ ?_)
  · rfl
  · rw [k0] at hd
    obtain ⟨p, hp, rfl⟩ := List.mem_map.mp hd
    refine EvP.cast (.var (i := 7) rfl) ?_
    show tS p = tK ((ssOf (tS p)).map Sum.inr)
    rw [ssOf_tS, tK_S]
  · rw [k0] at hd
    obtain ⟨p, hp, rfl⟩ := List.mem_map.mp hd
    rw [ssOf_tS]
    refine EvP.callB (fid := "max") (.cons (d := .list (((inn h p).map fun q => (q.map am).sum + M p q).map Dat.int)) ?_ .nil) (CallD.max g.blk (mxI_mem ?_) fun y hy => mxI_le hy) (B.free _ (by decide))
    · refine EvP.cast (EvP.compL (own := [("other", 6)]) (ps := (inn h p).map fun p => (tS p, Dat.bool true)) (b := fun _ => true) (r := fun d => .int (((ssOf d).map am).sum + M p (ssOf d))) (f := fun d => [.im h.dat, .im (brfD h M), .im (mD ks am), .im (innD h), .im (cntD h fun p => (p.map am).sum), .no, .im d, .im (tS p)]) rfl nd (blkIn (N := nAb) (sc := defScope (top 31)) (by decide +kernel))
        (EvV.dgetT g.blk (k := p.map Sum.inr) (EvV.var (i := 3) rfl) (EvP.cast (.var (i := 7) rfl) (tK_S p).symm) (tupsS id (innR h) bsets_ne) (dlookT_S (innR h) hp)) (.inl (tupsS id _ (inn_ne h p))) (fun d hd s H C cl fp => AsDV.name (i := 6) nd) (fun d hd s H C cl fp => ?_) (fun d hd hb s H C cl fp => ?_) (by rw [List.length_map]; have := inn_len sm p; omega)) ?_
      · rfl
      · rw [kR] at hd
        obtain ⟨q, hq, rfl⟩ := List.mem_map.mp hd
        rw [ssOf_tS]
        exact EvP.bin (EvP.dgetT g.blk.blk (k := q.map Sum.inr) (.var (i := 4) rfl) (EvP.cast (.var (i := 6) rfl) (tK_S q).symm) (tupsS id (fun p => .int ((p.map am).sum)) bsets_ne) (dlookT_S (fun p => .int ((p.map am).sum)) (inn_b hq)))
          (EvP.dgetT g.blk.blk (k := q.map Sum.inr) (EvP.dgetT g.blk.blk (k := p.map Sum.inr) (.var (i := 1) rfl) (EvP.cast (.var (i := 7) rfl) (tK_S p).symm) (tupsS id (brfR h M) bsets_ne) (dlookT_S (brfR h M) hp)) (EvP.cast (.var (i := 6) rfl) (tK_S q).symm) (tupsS id (fun q => .int (M p q)) (inn_ne h p)) (dlookT_S (fun q => .int (M p q)) hq)) Op2.add
      · rw [kR, keptAll, List.map_map, List.map_map]
        refine congrArg Dat.list (List.map_congr_left fun m _ => ?_)
        show Dat.int (((ssOf (tS m)).map am).sum + M p (ssOf (tS m))) = _
        rw [ssOf_tS]; rfl
    · simpa using inn_ne h p
  · rw [List.length_map]; have := bsets_len sm; omega
  · rw [k0, e0]
    simpa using bsets_ne
  · rw [k0, e0]
    exact Run.one (RunS.retP (EvP.own g ao (hr.mono (by decide)) (.cons (.var (i := 0) rfl) (.cons (.var (i := 5) rfl) .nil)) ⟨h, actC h M am, lb, sm, nk, hlb, rfl, rfl⟩) rfl)
end
end K94
end

/-! text WN -/
section
set_option Elab.async false
set_option autoImplicit false
set_option linter.all false
set_option maxRecDepth 100000
set_option maxHeartbeats 4000000
/-! deeds done -/
namespace K94
open PySem PySem.Spec PyProof.Rows L2

def oSD : Option Str → Dat
  | none => .none
  | some k => .str k
def takenK (am : Str → Int) (c : List Str) : Option Str := (c.filter fun k => decide (0 < am k)).head?
def upA (am : Str → Int) (k : Str) (n : Int) : Str → Int := fun x => if x = k then n else am x
def doA (am : Str → Int) : Deed → Str → Int
  | .put k => upA am k (am k + 1)
  | .call c => match takenK am c with
    | none => am
    | some k => upA am k (am k - 1)
def doneD (am : Str → Int) : Deed → Dat
  | .put _ => .none
  | .call c => oSD (takenK am c)
def DeedIn (ks : List Str) : Deed → Prop
  | .put k => k ∈ ks
  | .call c => (∀ k ∈ c, k ∈ ks) ∧ c.length ≤ 6
theorem takenK_mem {am : Str → Int} {c : List Str} {k : Str} (h : takenK am c = some k) : k ∈ c := (List.mem_filter.mp (List.mem_of_mem_head? h)).1
section
variable {P : Program} {w : World} {K : PySem.W.Frag} {mg : Str → Option Value} {base : Heap} {k : Nat}
/-! ### taken_kind -/
def rTk : Ow → List Dat → (Dat → Ow → Prop) → Prop := fun o ds Φ => ∃ (ks : List Str) (am : Str → Int) (c : List Str), DeedIn ks (.call c) ∧ o = .d (mD ks am) ∧ ds = [(Deed.call c).dat] ∧ Φ (oSD (takenK am c)) (.d (mD ks am))
def nTk : List Str := ["amounts", "deed", "there", "kind"]
theorem scTk : FnScope nTk ["amounts", "deed"] (defScope (top 34)) := ⟨rfl, rfl, rfl, by decide +kernel, rfl, by decide +kernel, by decide +kernel⟩
theorem okTk (B : Bs K mg) (F : Stands K mg "taken_kind" (top 34)) : Has P w K mg base 1 "taken_kind" (BorSp K rTk) := by
  refine Has.bor F B scTk (fun _ _ _ _ _ _ us hl => match us, hl with | [_, _], _ => rfl) (fun o ds d ⟨_, _, _, _, _, e, _⟩ => by rw [e]; rfl) fun a o ds Φ ⟨ks, am, c, hc, ho, hds, hΦ⟩ f cdv A outer s H g hr => ?_
  subst ho hds
  have nd := scTk.nd
  refine Run.cons (RunS.if_ (EvTP.t (c := decide (("call" : Str) = "put")) (EvTP.cmp (EvP.ix (.var (i := 1) rfl) .int (Ix2.tup atI0)) .str Cmp2.eqS) ?_))
  rw [if_neg (by decide)]
  refine Run.nil ?_
  refine Run.cons (RunS.setComp (i := 2) (own := [("kind", 3)]) (ds := dS c) (b := fun d => decide (0 < am (sOf d))) (r := id) (f := fun d => [.ow a (.d (mD ks am)), .im (Deed.call c).dat, .no, .im d]) rfl nd (blkOk_by (N := nTk) (sc := defScope (top 34)) (by decide +kernel))
    (.ftup (EvP.ix (.var (i := 1) rfl) .int (Ix2.tup atI1))) (fun d hd s H C cl fp => AsDV.name (i := 3) nd) (fun d hd s H C cl fp => ?_) (fun d hd _ s H C cl fp => .var (i := 3) rfl) (len1000 (by have := hc.2; omega) _) ?_)
  · obtain ⟨o, ho, rfl⟩ := List.mem_map.mp hd
    exact EvTP.readOwn (i := 0) rfl rfl (EvTP.cmp (EvP.dgetK g.blk (k := .inr o) (.var (i := 0) rfl) (.var (i := 3) rfl) (.str o) (atomsS id _ _) (dlook_mD (hc.1 o ho))) .int Cmp2.gt)
  · have e0 : keptD (fun d => decide (0 < am (sOf d))) id (dS c) = dS (c.filter fun o => decide (0 < am o)) := keptS (fun o => decide (0 < am o)) id Dat.str (fun _ => rfl) _
    rw [e0]
    refine Run.one (RunS.retI (EvI.ifExp (EvTP.t (c := !(dS (c.filter fun o => decide (0 < am o))).isEmpty) (EvTP.cmp (.var (i := 2) rfl) (.lst .nil) (Cmp2.neNil g)) ?_)))
    cases hf : c.filter fun o => decide (0 < am o) with
    | nil =>
      refine EvP.i .non ⟨.none, _, rfl, rfl, fun _ => rfl, ?_⟩
      unfold takenK at hΦ
      rw [hf] at hΦ
      exact hΦ
    | cons z l =>
      refine EvP.i (EvP.ix (.var (i := 2) rfl) .int (Ix2.lst atI0)) ⟨.str z, _, rfl, rfl, fun _ => rfl, ?_⟩
      unfold takenK at hΦ
      rw [hf] at hΦ
      exact hΦ
/-! ### do_deed -/
def rDd : Ow → List Dat → (Dat → Ow → Prop) → Prop := fun o ds Φ => ∃ (ks : List Str) (am : Str → Int) (D : Deed), ks.length ≤ 100 ∧ DeedIn ks D ∧ o = .d (mD ks am) ∧ ds = [D.dat] ∧ Φ (doneD am D) (.d (mD ks (doA am D)))
def nDd : List Str := ["amounts", "deed", "kind"]
theorem scDd : FnScope nDd ["amounts", "deed"] (defScope (top 35)) := ⟨rfl, rfl, rfl, by decide +kernel, rfl, by decide +kernel, by decide +kernel⟩
theorem okDd (B : Bs K mg) (F : Stands K mg "do_deed" (top 35)) (tk : Has P w K mg base 1 "taken_kind" (BorSp K rTk)) : Has P w K mg base 2 "do_deed" (BorSp K rDd) := by
  refine Has.bor F B scDd (fun _ _ _ _ _ _ us hl => match us, hl with | [_, _], _ => rfl) (fun o ds d ⟨_, _, _, _, _, _, e, _⟩ => by rw [e]; rfl) fun a o ds Φ ⟨ks, am, D, lk, hD, ho, hds, hΦ⟩ f cdv A outer s H g hr => ?_
  subst ho hds
  have nd := scDd.nd
  cases D with
  | put z =>
    refine Run.cons (RunS.if_ (EvTP.t (c := decide (("put" : Str) = "put")) (EvTP.cmp (EvP.ix (.var (i := 1) rfl) .int (Ix2.tup atI0)) .str Cmp2.eqS) ?_))
    rw [if_pos (by decide)]
    refine Run.cons (RunS.augK (i := 0) (q := a) (dk := .str z) (kk := .inr z) (n := am z) (j := 1) (op := .Add) (f := fun i j => i + j) g rfl (EvP.ix (.var (i := 1) rfl) .int (Ix2.tup atI1)) (.str z) (dlook_mD hD) .int (by rw [List.length_map]; omega) in_add ?_)
    refine Run.one (RunS.retP .non ⟨.none, .d (mD ks (doA am (.put z))), rfl, ?_, fun _ => rfl, hΦ⟩)
    rw [dputK_mD hD]
    rfl
  | call c =>
    refine Run.cons (RunS.if_ (EvTP.t (c := decide (("call" : Str) = "put")) (EvTP.cmp (EvP.ix (.var (i := 1) rfl) .int (Ix2.tup atI0)) .str Cmp2.eqS) ?_))
    rw [if_neg (by decide)]
    refine Run.nil ?_
    refine Run.cons (RunS.set (i := 2) (EvI.ev (Ψ := fun d δ' => d = oSD (takenK am c) ∧ δ' = [.ow a (.d (mD ks am)), .im (Deed.call c).dat, .no]) (EvI.ownB (i := 0) (q := a) g tk hr ⟨_, rfl⟩ (EvAP.ea (.cons (.var (i := 1) rfl) .nil) ⟨_, fun d o' => d = oSD (takenK am c) ∧ o' = Ow.d (mD ks am), rfl, ⟨ks, am, c, hD, rfl, rfl, rfl, rfl⟩, fun d o' ⟨e1, e2⟩ _ => ⟨e1, by rw [e2]; rfl⟩⟩)) fun d δ' ⟨e1, e2⟩ => ?_) nd)
    subst e1 e2
    cases ht : takenK am c with
    | none =>
      refine Run.cons (RunS.if_ (EvTP.t (c := false) (EvTP.cmp (.var (i := 2) rfl) .non (Cmp2.notNone rfl)) ?_))
      refine Run.nil ?_
      refine Run.one (RunS.retP (.var (i := 2) rfl) ⟨_, _, rfl, rfl, fun _ => rfl, ?_⟩)
      have e1 : doneD am (.call c) = oSD (takenK am c) := rfl
      have e2 : doA am (.call c) = am := by show (match takenK am c with | none => am | some k => upA am k (am k - 1)) = am; rw [ht]
      rw [e1, e2, ht] at hΦ
      exact hΦ
    | some z =>
      have hz := hD.1 z (takenK_mem ht)
      refine Run.cons (RunS.if_ (EvTP.t (c := true) (EvTP.cmp (.var (i := 2) rfl) .non (Cmp2.notNone rfl)) ?_))
      refine Run.one (RunS.augK (i := 0) (q := a) (dk := .str z) (kk := .inr z) (n := am z) (j := 1) (op := .Sub) (f := fun i j => i - j) g rfl (.var (i := 2) rfl) (.str z) (dlook_mD hz) .int (by rw [List.length_map]; omega) in_sub ?_)
      refine Run.one (RunS.retP (.var (i := 2) rfl) ⟨_, .d (mD ks (doA am (.call c))), rfl, ?_, fun _ => rfl, ?_⟩)
      · rw [dputK_mD hz]
        have e2 : doA am (.call c) = upA am z (am z - 1) := by show (match takenK am c with | none => am | some k => upA am k (am k - 1)) = _; rw [ht]
        rw [e2]
        rfl
      · have e1 : doneD am (.call c) = oSD (takenK am c) := rfl
        rw [e1, ht] at hΦ
        exact hΦ
/-! ### acted -/
def rAct : List Dat → Dat → Prop := fun ds d => ∃ (h : Hs) (st : List Deed) (ks : List Str) (am : Str → Int), Small h ∧ h.ks.Nodup ∧ (∀ k ∈ h.ks, k ∈ ks) ∧ (∀ D ∈ st, DeedIn h.ks D) ∧ ds = [h.dat, stD st, mD ks am] ∧ d = mD (sS h.ks) (st.foldl doA am)
def nAct : List Str := ["house", "stretch", "amounts", "found", "kind", "deed"]
theorem scAct : FnScope nAct ["house", "stretch", "amounts"] (defScope (top 36)) := ⟨rfl, rfl, rfl, by decide +kernel, rfl, by decide +kernel, by decide +kernel⟩
theorem DeedIn.mono {ks ks' : List Str} (hs : ∀ k ∈ ks, k ∈ ks') : ∀ {D : Deed}, DeedIn ks D → DeedIn ks' D
  | .put _, h => hs _ h
  | .call _, h => ⟨fun k hk => hs k (h.1 k hk), h.2⟩
theorem okAct (B : Bs K mg) (F : Stands K mg "acted" (top 36)) (dd : Has P w K mg base 2 "do_deed" (BorSp K rDd)) : Has P w K mg base 3 "acted" (PurSp K rAct) := by
  refine Has.pur F B scAct (fun _ _ _ _ _ _ us hl => match us, hl with | [_, _, _], _ => rfl) (fun ds d ⟨_, _, _, _, _, _, _, _, e, _⟩ => by rw [e]; rfl) fun ds d ⟨h, st, ks, am, sm, nk, hks, hst, hds, hd⟩ f cdv A outer s H g hr => ?_
  subst hds hd
  have nd := scAct.nd
  have ns : (sS h.ks).Nodup := (sS_perm _).nodup_iff.mpr nk
  have ls : (sS h.ks).length ≤ 6 := by rw [(sS_perm _).length_eq]; exact sm.ks
  have hs := srtS h.ks
  have inS : ∀ k, k ∈ sS h.ks ↔ k ∈ h.ks := fun k => (sS_perm _).mem_iff
  refine Run.cons (RunS.setDictK (i := 3) (own := [("kind", 4)]) (ds := dS (sS h.ks)) (b := fun _ => true) (kf := keyOf) (kd := id) (r := fun d => .int (am (sOf d))) (f := fun d => [.im h.dat, .im (stD st), .im (mD ks am), .no, .im d, .no]) rfl nd (blkOk_by (N := nAct) (sc := defScope (top 36)) (by decide +kernel))
    (EvItP.list (EvP.callB (fid := "sorted") (.cons (EvP.ix (.var (i := 0) rfl) .int (Ix2.tup atI0)) .nil) (hs ▸ CallD.sortedT g (by have := sm.ks; omega)) (B.free _ (by decide)))) (fun d hd s H C cl fp => AsDV.name (i := 4) nd) (fun d hd s H C cl fp => ?_) (fun d hd _ => ?_) (fun d hd _ s H C cl fp => ?_) (len1000 (by omega) _) fun q => ?_)
  · rfl
  · obtain ⟨o, _, rfl⟩ := List.mem_map.mp hd
    exact ⟨.str o, fun s H C cl fp => .var (i := 4) rfl⟩
  · obtain ⟨o, ho, rfl⟩ := List.mem_map.mp hd
    exact EvP.dgetK g.blk (k := .inr o) (.var (i := 2) rfl) (.var (i := 4) rfl) (.str o) (atomsS id _ _) (dlook_mD (hks o ((inS o).mp ho)))
  · have e0 : keptK (fun _ => true) keyOf (fun d => .int (am (sOf d))) (dS (sS h.ks)) = (sS h.ks).map fun k => (.str k, .int (am k)) := keptK_S ns
    rw [e0]
    refine Run.cons (RunS.for_ ((EvItP.tup (.var (i := 1) rfl)).i ?_) rfl)
    refine ⟨fun j δ' => ∃ x, δ' = [.im h.dat, .im (stD st), .im (mD ks am), .ow q (.d (mD (sS h.ks) ((st.take j).foldl doA am))), .no, x], ⟨_, rfl⟩, fun j d δ' hj ⟨x, e⟩ => ?_, fun δ' ⟨x, e⟩ => ?_⟩
    · subst e
      rw [List.getElem?_map] at hj
      obtain ⟨D, hD, rfl⟩ := Option.map_eq_some_iff.mp hj
      have next := foldTake doA am hD
      refine ⟨_, AsD.name (i := 5) nd, ?_⟩
      refine Run.one (RunS.expr (EvI.ev (EvI.ownB (i := 3) (q := q) g dd hr ⟨_, rfl⟩ (EvAP.ea (.cons (.var (i := 5) rfl) .nil) ⟨_, fun d o' => o' = Ow.d (mD (sS h.ks) (doA ((st.take j).foldl doA am) D)), rfl, ⟨sS h.ks, _, D, by omega, (hst D (List.mem_of_getElem? hD)).mono (fun k hk => (inS k).mpr hk), rfl, rfl, rfl⟩, fun d o' e _ => ?_⟩)) fun d δ' hx => hx))
      refine ⟨.im D.dat, ?_⟩
      rw [next, e]; rfl
    · subst e
      rw [List.length_map, List.take_length]
      exact Run.one (RunS.ret (Ev.giveVar (i := 3) rfl rfl))
end
end K94
end

/-! text WO -/
section
set_option Elab.async false
set_option autoImplicit false
set_option linter.all false
set_option maxRecDepth 100000
set_option maxHeartbeats 4000000
/-! logs and stretches -/
namespace K94
open PySem PySem.Spec PyProof.Rows L2

inductive Row where
  | put (n k : Str)
  | call (c : List Str)
def Row.dat : Row → Dat
  | .put n k => .tuple [.str "put", .str n, .str k]
  | .call c => .tuple [.str "call", cD c]
def Row.deed : Row → Deed
  | .put _ k => .put k
  | .call c => .call c
def lgD (l : List Row) : Dat := .tuple (l.map Row.dat)
def sg (n : Nat) : Str := ⟨#[abc.cps.toList.getD n 0]⟩
def nmF (n : Nat) (acc : Str) : Str := if h : n = 0 then acc else nmF ((n - 1) / 26) (sg ((n - 1) % 26) ++ acc)
termination_by n
decreasing_by omega
def lgStep (s : List Row × Nat) : Deed → List Row × Nat
  | .put k => (s.1 ++ [.put (nmF (s.2 + 1) "") k], s.2 + 1)
  | .call c => (s.1 ++ [.call c], s.2)
def logOf (st : List Deed) : List Row := (st.foldl lgStep ([], 0)).1
theorem lgStep_len (D : Deed) (s : List Row × Nat) : (lgStep s D).1.length = s.1.length + 1 ∧ (lgStep s D).2 ≤ s.2 + 1 := by
  cases D
  · exact ⟨by simp [lgStep], Nat.le_refl _⟩
  · exact ⟨by simp [lgStep], Nat.le_succ _⟩
theorem lg_len : ∀ (st : List Deed) (s : List Row × Nat), (st.foldl lgStep s).1.length = s.1.length + st.length ∧ (st.foldl lgStep s).2 ≤ s.2 + st.length
  | [], s => ⟨rfl, Nat.le_refl _⟩
  | D :: st, s => by
    have h1 := lg_len st (lgStep s D)
    have h2 := lgStep_len D s
    rw [List.foldl_cons, List.length_cons]
    omega
theorem lg_deed : ∀ (st : List Deed) (s : List Row × Nat), (st.foldl lgStep s).1.map Row.deed = s.1.map Row.deed ++ st
  | [], s => by simp
  | D :: st, s => by
    rw [List.foldl_cons, lg_deed st]
    cases D <;> simp [lgStep, Row.deed]
theorem logOf_deed (st : List Deed) : (logOf st).map Row.deed = st := lg_deed st ([], 0)
theorem logOf_len (st : List Deed) : (logOf st).length = st.length := by
  have := (lg_len st ([], 0)).1
  simpa [logOf] using this
theorem atI2 {α : Type} {a b c : α} {l : List α} : atI (a :: b :: c :: l) 2 = some c := by
  have : ixN (a :: b :: c :: l).length 2 = some 2 := ixN_pos (j := 2) (by simp)
  unfold atI
  rw [this]; rfl
theorem atIn {α : Type} {l : List α} {j : Nat} {x : α} (h : l[j]? = some x) : atI l (j : Int) = some x := by
  have : ixN l.length (j : Int) = some j := ixN_pos (List.getElem?_eq_some_iff.mp h).1
  unfold atI
  rw [this]; exact h
theorem emptyLen : ("" : Str).length = 0 := by decide +kernel
theorem abcLen : abc.cps.toList.length = 26 := by decide +kernel
theorem abcSize : abc.length = 26 := by decide +kernel
section
variable {P : Program} {w : World} {K : PySem.W.Frag} {mg : Str → Option Value} {base : Heap} {k : Nat}
/-! ### stretch_of -/
def rSt : List Dat → Dat → Prop := fun ds d => ∃ l : List Row, l.length ≤ 1000 ∧ ds = [lgD l] ∧ d = stD (l.map Row.deed)
def nSt : List Str := ["log", "row"]
theorem scSt : FnScope nSt ["log"] (defScope (top 37)) := ⟨rfl, rfl, rfl, by decide +kernel, rfl, by decide +kernel, by decide +kernel⟩
def unRow : Dat → Dat
  | .tuple [a, b, c] => .tuple [a, c]
  | d => d
theorem okSt (B : Bs K mg) (F : Stands K mg "stretch_of" (top 37)) : Has P w K mg base 1 "stretch_of" (PurSp K rSt) := by
  refine Has.pur F B scSt (fun _ _ _ _ _ _ us hl => match us, hl with | [_], _ => rfl) (fun ds d ⟨_, _, e, _⟩ => by rw [e]; rfl) fun ds d ⟨l, hl, hds, hd⟩ f cdv A outer s H g hr => ?_
  subst hds hd
  have nd := scSt.nd
  refine Run.one (RunS.retP (d := stD (l.map Row.deed)) (EvP.callT (T := "tuple") (.cons (d := .list ((l.map Row.deed).map Deed.dat)) ?_ .nil) CallD.tupL (B.free _ (by decide))) rfl)
  refine EvP.cast (EvP.comp (own := [("row", 1)]) (ds := l.map Row.dat) (b := fun _ => true) (r := unRow) (f := fun d => [.im (lgD l), .im d]) rfl nd (blkOk_by (N := nSt) (sc := defScope (top 37)) (by decide +kernel))
    (.tup (.var (i := 0) rfl)) (fun d hd s H C cl fp => AsDV.name (i := 1) nd) (fun d hd s H C cl fp => ?_) (fun d hd _ s H C cl fp => ?_) (by rw [List.length_map]; exact hl)) ?_
  · rfl
  · obtain ⟨o, ho, rfl⟩ := List.mem_map.mp hd
    cases o with
    | put n k => exact EvP.ifExp (k := true) (EvTP.cmp (EvP.ix (.var (i := 1) rfl) .int (Ix2.tup atI0)) .str Cmp2.eqS) (fun _ => .tup (.cons .str (.cons (EvP.ix (.var (i := 1) rfl) .int (Ix2.tup atI2)) .nil)) (Nat.le_of_ble_eq_true rfl)) fun e => by cases e
    | call c => exact EvP.ifExp (k := false) (EvTP.cmp (EvP.ix (.var (i := 1) rfl) .int (Ix2.tup atI0)) .str Cmp2.eqS) (fun e => by cases e) fun _ => .var (i := 1) rfl
  · rw [keptAll, List.map_map, List.map_map]
    refine congrArg Dat.list (List.map_congr_left fun r _ => ?_)
    cases r <;> rfl
/-! ### name_at -/
def rNm : List Dat → Dat → Prop := fun ds d => ∃ n : Nat, n ≤ 1000 ∧ ds = [.int (n : Nat)] ∧ d = .str (nmF n "")
def nNm : List Str := ["number", "found"]
theorem scNm : FnScope nNm ["number"] (defScope (top 38)) := ⟨rfl, rfl, rfl, by decide +kernel, rfl, by decide +kernel, by decide +kernel⟩
theorem strLen (a b : Str) : (a ++ b).length = a.length + b.length := Array.size_append
theorem nmF_pos {n : Nat} {x : Str} (h : n ≠ 0) : nmF n x = nmF ((n - 1) / 26) (sg ((n - 1) % 26) ++ x) := by
  rw [nmF, dif_neg h]
theorem okNm (B : Bs K mg) (F : Stands K mg "name_at" (top 38)) (si : ∃ t, mg "SIGNS" = some (.str abc t)) : Has P w K mg base 1 "name_at" (PurSp K rNm) := by
  refine Has.pur F B scNm (fun _ _ _ _ _ _ us hl => match us, hl with | [_], _ => rfl) (fun ds d ⟨_, _, e, _⟩ => by rw [e]; rfl) fun ds d ⟨n0, hn, hds, hd⟩ f cdv A outer s H g hr => ?_
  subst hds hd
  have nd := scNm.nd
  refine Run.cons (RunS.setP (i := 1) .str ?_ nd)
  refine Run.cons (RunS.while_ (fun m δ' => ∃ x : Str, δ' = [.im (.int (m : Nat)), .im (.str x)] ∧ nmF m x = nmF n0 "" ∧ x.length + m ≤ 1000) n0 ⟨"", rfl, rfl, by rw [emptyLen]; omega⟩ ?_)
  rintro m δ' ⟨x, rfl, hx, lx⟩
  refine EvTP.t (c := decide ((0 : Int) < (m : Nat))) (EvTP.cmp (.var (i := 0) rfl) .int Cmp2.gt) ?_
  cases m with
  | zero =>
    rw [if_neg (by decide)]
    refine Run.one (RunS.retP (.var (i := 1) rfl) ?_)
    rw [nmF, dif_pos rfl] at hx
    rw [hx]
    exact rfl
  | succ m =>
    rw [if_pos (by simp)]
    have e1 : ((m + 1 : Nat) : Int) - 1 = (m : Nat) := by omega
    refine Run.cons (RunS.augI (i := 0) (n := ((m + 1 : Nat) : Int)) (j := 1) rfl .int ip_sub ?_ (hN := ⟨nd, rfl, Or.inl rfl, .inr rfl⟩))
    rw [e1]
    have lt : m % 26 < abc.cps.toList.length := by rw [abcLen]; exact Nat.mod_lt _ (by decide)
    have e2 : ((m : Nat) : Int) % 26 = ((m % 26 : Nat) : Int) := rfl
    have e3 : ((m : Nat) : Int) / 26 = ((m / 26 : Nat) : Int) := rfl
    have e4 : sg (m % 26) = ⟨#[abc.cps.toList[m % 26]]⟩ := by
      unfold sg
      rw [List.getD_eq_getElem?_getD, List.getElem?_eq_getElem lt]; rfl
    refine Run.cons (RunS.setP (i := 1) (d := .str (sg (m % 26) ++ x)) (EvP.bin (EvP.cast (d' := .str (sg (m % 26))) (EvP.ix (EvP.globStr si) (EvP.bin (.var (i := 0) rfl) (EvP.callB (fid := "len") (.cons (EvP.globStr si) .nil) (CallD.lenS (by rw [abcSize]; decide)) (B.free _ (by decide))) (Op2.mod (by rw [abcSize]; decide))) (Ix2.str (by rw [abcSize]; decide) (?_ : _ = some abc.cps.toList[m % 26]))) (congrArg Dat.str e4.symm)) (.var (i := 1) rfl) (Op2.addStr ?_)) ?_ nd)
    · rw [abcSize]
      show atI _ (((m : Nat) : Int) % 26) = _
      rw [e2]
      exact atIn (List.getElem?_eq_getElem lt)
    · have : (sg (m % 26)).length = 1 := rfl
      have : (1000 : Nat) ≤ sizeLine := by decide
      omega
    · refine Run.one (RunS.setP (i := 0) (d := .int ((m / 26 : Nat) : Int)) (EvP.cast (EvP.bin (.var (i := 0) rfl) (EvP.callB (fid := "len") (.cons (EvP.globStr si) .nil) (CallD.lenS (by rw [abcSize]; decide)) (B.free _ (by decide))) (Op2.fdiv ?_)) ?_) ?_ nd)
      · rw [abcSize]; exact ⟨by decide, by decide⟩
      · rw [abcSize]; rfl
      · refine ⟨m / 26, by omega, _, rfl, ?_, ?_⟩
        · rw [nmF_pos (by omega)] at hx
          exact hx
        · rw [strLen]
          have : (sg (m % 26)).length = 1 := rfl
          omega
/-! ### log_of -/
def rLg : List Dat → Dat → Prop := fun ds d => ∃ st : List Deed, st.length ≤ 900 ∧ ds = [stD st] ∧ d = lgD (logOf st)
def nLg : List Str := ["stretch", "found", "number", "deed"]
theorem scLg : FnScope nLg ["stretch"] (defScope (top 39)) := ⟨rfl, rfl, rfl, by decide +kernel, rfl, by decide +kernel, by decide +kernel⟩
theorem okLg (B : Bs K mg) (F : Stands K mg "log_of" (top 39)) (nm : Has P w K mg base 1 "name_at" (PurSp K rNm)) : Has P w K mg base 2 "log_of" (PurSp K rLg) := by
  refine Has.pur F B scLg (fun _ _ _ _ _ _ us hl => match us, hl with | [_], _ => rfl) (fun ds d ⟨_, _, e, _⟩ => by rw [e]; rfl) fun ds d ⟨st, hl, hds, hd⟩ f cdv A outer s H g hr => ?_
  subst hds hd
  have nd := scLg.nd
  refine Run.cons (RunS.par2 (i := 1) (j := 2) (Ev.newL (.nil ⟨Nat.zero_le _, fun q => EvP.ev .int ?_⟩)) rfl nd)
  refine Run.cons (RunS.for_ ((EvItP.tup (.var (i := 0) rfl)).i ?_) rfl)
  refine ⟨fun j δ' => ∃ x, δ' = [.im (stD st), .ow q (.d (.list (((st.take j).foldl lgStep ([], 0)).1.map Row.dat))), .im (.int (((st.take j).foldl lgStep ([], 0)).2 : Nat)), x], ⟨_, rfl⟩, fun j d δ' hj ⟨x, e⟩ => ?_, fun δ' ⟨x, e⟩ => ?_⟩
  · subst e
    rw [List.getElem?_map] at hj
    obtain ⟨D, hD, rfl⟩ := Option.map_eq_some_iff.mp hj
    have next := foldTake lgStep ([], 0) hD
    have len := lg_len (st.take j) ([], 0)
    have lt : (st.take j).length ≤ 900 := takeLen hl j
    generalize (st.take j).foldl lgStep ([], 0) = z at next len
    obtain ⟨rows, n⟩ := z
    simp only [List.length_nil, Nat.zero_add] at len
    refine ⟨_, AsD.name (i := 3) nd, ?_⟩
    cases D with
    | put k =>
      refine Run.one (RunS.if_ (EvTP.t (c := decide (("put" : Str) = "put")) (EvTP.cmp (EvP.ix (.var (i := 3) rfl) .int (Ix2.tup atI0)) .str Cmp2.eqS) ?_))
      rw [if_pos (by decide)]
      refine Run.cons (RunS.augI (i := 2) (n := (n : Nat)) (j := 1) rfl .int ip_add ?_ (hN := ⟨nd, rfl, Or.inl rfl, .inr rfl⟩))
      refine Run.one (RunS.expr (Ev.append (i := 1) (q := q) (EvP.i (d := (Row.put (nmF (n + 1) "") k).dat) (.tup (.cons .str (.cons (EvP.own g nm hr (.cons (.var (i := 2) rfl) .nil) ⟨n + 1, by omega, rfl, rfl⟩) (.cons (EvP.ix (.var (i := 3) rfl) .int (Ix2.tup atI1)) .nil))) (Nat.le_of_ble_eq_true rfl)) ⟨_, rfl, by rw [List.length_map]; show rows.length ≤ 1000; omega, ?_⟩) ⟨_, rfl⟩))
      refine ⟨.im (Deed.put k).dat, ?_⟩
      rw [next]
      show _ = [_, Cell.ow q (.d (.list ((rows ++ [Row.put (nmF (n + 1) "") k]).map Row.dat))), Cell.im (.int ((n + 1 : Nat) : Int)), _]
      rw [List.map_append]
      rfl
    | call c =>
      refine Run.one (RunS.if_ (EvTP.t (c := decide (("call" : Str) = "put")) (EvTP.cmp (EvP.ix (.var (i := 3) rfl) .int (Ix2.tup atI0)) .str Cmp2.eqS) ?_))
      rw [if_neg (by decide)]
      refine Run.one (RunS.expr (Ev.append (i := 1) (q := q) (EvP.i (.var (i := 3) rfl) ⟨_, rfl, by rw [List.length_map]; show rows.length ≤ 1000; omega, ?_⟩) ⟨_, rfl⟩))
      refine ⟨.im (Deed.call c).dat, ?_⟩
      rw [next]
      show _ = [_, Cell.ow q (.d (.list ((rows ++ [Row.call c]).map Row.dat))), _, _]
      rw [List.map_append]
      rfl
  · subst e
    rw [List.length_map, List.take_length]
    exact Run.one (RunS.retI (EvI.callT (T := "tuple") (EvA.cons (Ev.toI (Ev.giveVar (i := 1) rfl ⟨_, rfl, EvA.nil ⟨_, CallD.tupL, rfl⟩⟩))) (B.free _ (by decide))))
/-! ### no_amounts -/
def rNa : List Dat → Dat → Prop := fun ds d => ∃ h : Hs, Small h ∧ h.ks.Nodup ∧ ds = [h.dat] ∧ d = mD (sS h.ks) fun _ => 0
def nNa : List Str := ["house", "kind"]
theorem scNa : FnScope nNa ["house"] (defScope (top 40)) := ⟨rfl, rfl, rfl, by decide +kernel, rfl, by decide +kernel, by decide +kernel⟩
theorem okNa (B : Bs K mg) (F : Stands K mg "no_amounts" (top 40)) : Has P w K mg base 1 "no_amounts" (PurSp K rNa) := by
  refine Has.pur F B scNa (fun _ _ _ _ _ _ us hl => match us, hl with | [_], _ => rfl) (fun ds d ⟨_, _, _, e, _⟩ => by rw [e]; rfl) fun ds d ⟨h, sm, nk, hds, hd⟩ f cdv A outer s H g hr => ?_
  subst hds hd
  have nd := scNa.nd
  have ns : (sS h.ks).Nodup := (sS_perm _).nodup_iff.mpr nk
  have ls : (sS h.ks).length ≤ 6 := by rw [(sS_perm _).length_eq]; exact sm.ks
  have hs := srtS h.ks
  have e0 : keptK (fun _ => true) keyOf (fun _ => .int 0) (dS (sS h.ks)) = (sS h.ks).map fun k => (.str k, .int 0) := keptK_S ns
  refine Run.one (RunS.retP (d := mD (sS h.ks) fun _ => 0) (EvP.cast (EvP.dictK (own := [("kind", 1)]) (ds := dS (sS h.ks)) (b := fun _ => true) (kf := keyOf) (kd := id) (r := fun _ => .int 0) (f := fun d => [.im h.dat, .im d]) rfl nd (blkOk_by (N := nNa) (sc := defScope (top 40)) (by decide +kernel))
    (EvItP.list (EvP.callB (fid := "sorted") (.cons (EvP.ix (.var (i := 0) rfl) .int (Ix2.tup atI0)) .nil) (hs ▸ CallD.sortedT g (by have := sm.ks; omega)) (B.free _ (by decide)))) (fun d hd s H C cl fp => AsDV.name (i := 1) nd) (fun d hd s H C cl fp => ?_) (fun d hd _ => ?_) (fun d hd _ s H C cl fp => .int) (len1000 (by omega) _)) (congrArg Dat.dict e0)) rfl)
  · rfl
  · obtain ⟨o, _, rfl⟩ := List.mem_map.mp hd
    exact ⟨.str o, fun s H C cl fp => .var (i := 1) rfl⟩
end
end K94
end

/-! text WP -/
section
set_option Elab.async false
set_option autoImplicit false
set_option linter.all false
set_option maxRecDepth 100000
set_option maxHeartbeats 4000000
/-! forms -/
namespace K94
open PySem PySem.Spec PyProof.Rows L2
open PySem.W (EachIs AllAlike Sortable dataLt dataLe alike alikeAll SortsAt dataKind sortVals)

def NameOk (z : Str) : Prop := 1 ≤ z.length ∧ z.length ≤ 6 ∧ ∀ c ∈ z.cps.toList, c ∈ abc.cps.toList
theorem abcSmall : ∀ c ∈ abc.cps.toList, c < 0x110000 := by decide +kernel
theorem NameOk.str {z : Str} (h : NameOk z) : PyData.strOk z = true := by
  unfold PyData.strOk
  rw [← Array.all_toList, List.all_eq_true]
  exact fun c hc => decide_eq_true (abcSmall c (h.2.2 c hc))
theorem layS : ∀ {p : List Str}, (∀ k ∈ p, PyData.strOk k = true) → PyData.canLayAll0 (pyAll (dS p)) = true
  | [], _ => rfl
  | a :: p, h => by
    show (PyData.strOk a && PyData.canLayAll0 (pyAll (dS p))) = true
    rw [h a List.mem_cons_self, layS fun k hk => h k (List.mem_cons_of_mem _ hk)]; rfl
theorem shapedS {p : List Str} (h : ∀ k ∈ p, PyData.strOk k = true) : SeqAt.shaped (PyData.tuple (pyAll (dS p))) = true := by
  refine Bool.and_eq_true_iff.mpr ⟨layS h, decide_eq_true ?_⟩
  show PyData.depthAll (pyAll (dS p)) + 1 ≤ 64
  rw [depthS]; decide
theorem layC : ∀ {cs : List (List Str)}, (∀ c ∈ cs, ∀ k ∈ c, PyData.strOk k = true) → PyData.canLayAll0 (pyAll (cs.map cD)) = true
  | [], _ => rfl
  | c :: cs, h => by
    show (PyData.canLayAll0 (pyAll (dS c)) && PyData.canLayAll0 (pyAll (cs.map cD))) = true
    rw [layS (h c List.mem_cons_self), layC fun k hk => h k (List.mem_cons_of_mem _ hk)]; rfl
theorem depthC : ∀ cs : List (List Str), PyData.depthAll (pyAll (cs.map cD)) ≤ 1
  | [] => Nat.zero_le _
  | c :: cs => by
    show max (PyData.depthAll (pyAll (dS c)) + 1) (PyData.depthAll (pyAll (cs.map cD))) ≤ 1
    rw [depthS]
    exact Nat.max_le.mpr ⟨Nat.le_refl _, depthC cs⟩
theorem shapedC {cs : List (List Str)} (h : ∀ c ∈ cs, ∀ k ∈ c, PyData.strOk k = true) : SeqAt.shaped (PyData.tuple (pyAll (cs.map cD))) = true := by
  refine Bool.and_eq_true_iff.mpr ⟨layC h, decide_eq_true ?_⟩
  show PyData.depthAll (pyAll (cs.map cD)) + 1 ≤ 64
  have := depthC cs
  omega
theorem eqvS : ∀ p q : List Str, PyData.eqvAll (pyAll (dS p)) (pyAll (dS q)) = decide (p = q)
  | [], [] => rfl
  | [], _ :: _ => rfl
  | _ :: _, [] => rfl
  | a :: p, b :: q => by
    show ((a == b) && PyData.eqvAll (pyAll (dS p)) (pyAll (dS q))) = _
    rw [eqvS p q]
    by_cases h1 : a = b <;> by_cases h2 : p = q <;> simp [h1, h2]
structure HouseOk (h : Hs) : Prop where
  nd : h.ks.Nodup
  k1 : 1 ≤ h.ks.length
  k6 : h.ks.length ≤ 6
  nm : ∀ k ∈ h.ks, NameOk k
  c1 : 1 ≤ h.cs.length
  c8 : h.cs.length ≤ 8
  ord : ∀ c ∈ h.cs, h.ks.filter (fun k => decide (k ∈ c)) = c
  ne : ∀ c ∈ h.cs, c ≠ []
  lt : ∀ x ∈ h.cs.zip h.cs.tail, dataLt (cD x.1).py (cD x.2).py = true
  cov : ∀ k ∈ h.ks, ∃ c ∈ h.cs, k ∈ c
theorem HouseOk.sub {h : Hs} (o : HouseOk h) {c : List Str} (hc : c ∈ h.cs) : ∀ k ∈ c, k ∈ h.ks := fun k hk => by
  rw [← o.ord c hc] at hk
  exact (List.mem_filter.mp hk).1
theorem HouseOk.small {h : Hs} (o : HouseOk h) : Small h := ⟨o.k6, o.c8, fun c hc => by rw [← o.ord c hc]; exact Nat.le_trans (List.length_filter_le _ _) o.k6⟩
theorem HouseOk.str {h : Hs} (o : HouseOk h) {c : List Str} (hc : c ∈ h.cs) : ∀ k ∈ c, PyData.strOk k = true := fun k hk => (o.nm k (o.sub hc k hk)).str
section
variable {P : Program} {w : World} {K : PySem.W.Frag} {mg : Str → Option Value} {base : Heap} {k : Nat}
structure Gs (mg : Str → Option Value) : Prop where
  pt : ∃ t, mg "PUT" = some (.str "put" t)
  si : ∃ t, mg "SIGNS" = some (.str abc t)
  le : ∃ t, mg "LETTERS" = some (.str abc t)
  s6 : ∃ t, mg "MOST_SIGNS" = some (.int 6 t)
  k6 : ∃ t, mg "MOST_KINDS" = some (.int 6 t)
  c8 : ∃ t, mg "MOST_CALLS" = some (.int 8 t)
/-! ### is_name -/
def rIn : List Dat → Dat → Prop := fun ds d => ∃ z : Str, NameOk z ∧ ds = [.str z] ∧ d = .bool true
def nIn : List Str := ["thing", "sign"]
theorem scIn : FnScope nIn ["thing"] (defScope (top 46)) := ⟨rfl, rfl, rfl, by decide +kernel, rfl, by decide +kernel, by decide +kernel⟩
theorem okIn (B : Bs K mg) (F : Stands K mg "is_name" (top 46)) (S : Gs mg) : Has P w K mg base 1 "is_name" (PurSp K rIn) := by
  refine Has.pur F B scIn (fun _ _ _ _ _ _ us hl => match us, hl with | [_], _ => rfl) (fun ds d ⟨_, _, e, _⟩ => by rw [e]; rfl) fun ds d ⟨z, hz, hds, hd⟩ f cdv A outer s H g hr => ?_
  subst hds hd
  have nd := scIn.nd
  have sl : (6 : Nat) ≤ sizeLine := by decide
  have h1 := hz.1
  have h2 := hz.2.1
  refine Run.cons (RunS.if_ (EvTP.t (EvWP.t (EvWP.or (EvTP.not (EvTP.val (EvP.isInst (T := "str") (.var (i := 0) rfl) rfl (B.free _ (by decide)) (B.free _ (by decide))))) fun _ => EvWP.or1 (EvTP.not (EvTP.chain (k1 := true) (k2 := true) .int (EvP.callB (fid := "len") (.cons (.var (i := 0) rfl) .nil) (CallD.lenS (by omega)) (B.free _ (by decide))) (EvP.globInt S.s6) ?_ ?_)))) ?_))
  · have : (true : Bool) = decide ((1 : Int) ≤ (z.length : Nat)) := (decide_eq_true (by omega)).symm
    rw [this]; exact Cmp2.le
  · have : (true : Bool) = decide (((z.length : Nat) : Int) ≤ 6) := (decide_eq_true (by omega)).symm
    rw [this]; exact Cmp2.le
  refine Run.nil ?_
  refine Run.one (RunS.retP (d := .bool true) (EvP.callB (fid := "all") (.cons (d := .list ((z.cps.toList.map fun c => decide (c ∈ abc.cps.toList)).map Dat.bool)) ?_ .nil) (?_ : CallD _ _ _ _) B.all) rfl)
  · refine EvP.cast (EvP.comp (own := [("sign", 1)]) (ds := z.cps.toList.map fun c => Dat.str ⟨#[c]⟩) (b := fun _ => true) (r := fun d => .bool (decide ((sOf d).cps.toList.headD 0 ∈ abc.cps.toList))) (f := fun d => [.im (.str z), .im d]) rfl nd (blkOk_by (N := nIn) (sc := defScope (top 46)) (by decide +kernel))
      (.str (.var (i := 0) rfl)) (fun d hd s H C cl fp => AsDV.name (i := 1) nd) (fun d hd s H C cl fp => ?_) (fun d hd _ s H C cl fp => ?_) ?_) ?_
    · rfl
    · obtain ⟨c, hc, rfl⟩ := List.mem_map.mp hd
      exact EvP.cmp (.var (i := 1) rfl) (EvP.globStr S.le) Cmp2.inStr
    · rw [List.length_map]
      show z.cps.toList.length ≤ 1000
      have : z.cps.toList.length = z.length := rfl
      omega
    · rw [keptAll, List.map_map, List.map_map]; rfl
  · have := CallD.all g (bs := z.cps.toList.map fun c => decide (c ∈ abc.cps.toList))
    have e : (z.cps.toList.map fun c => decide (c ∈ abc.cps.toList)).all id = true := by
      rw [List.all_map, List.all_eq_true]
      exact fun c hc => decide_eq_true (hz.2.2 c hc)
    rw [e] at this
    exact this
/-! ### is_tuple_of -/
def rIt : List Dat → Dat → Prop := fun ds d => ∃ (xs : List Dat) (n : Nat), ds = [.tuple xs, .int (n : Nat)] ∧ d = .bool (decide (xs.length = n))
def nIt : List Str := ["thing", "many"]
theorem scIt : FnScope nIt ["thing", "many"] (defScope (top 47)) := ⟨rfl, rfl, rfl, by decide +kernel, rfl, by decide +kernel, by decide +kernel⟩
theorem okIt (B : Bs K mg) (F : Stands K mg "is_tuple_of" (top 47)) : Has P w K mg base 1 "is_tuple_of" (PurSp K rIt) := by
  refine Has.pur F B scIt (fun _ _ _ _ _ _ us hl => match us, hl with | [_, _], _ => rfl) (fun ds d ⟨_, _, e, _⟩ => by rw [e]; rfl) fun ds d ⟨xs, n, hds, hd⟩ f cdv A outer s H g hr => ?_
  subst hds hd
  have e : decide (((xs.length : Nat) : Int) = (n : Nat)) = decide (xs.length = n) := decide_eq_decide.mpr (by omega)
  refine Run.one (RunS.retP (d := .bool (true && decide (xs.length = n))) (EvP.and (EvP.isInst (T := "tuple") (.var (i := 0) rfl) rfl (B.free _ (by decide)) (B.free _ (by decide))) fun _ => EvP.one ?_) rfl)
  rw [← e]
  exact EvP.cmp (EvP.callB (fid := "len") (.cons (.var (i := 0) rfl) .nil) CallD.lenT (B.free _ (by decide))) (.var (i := 1) rfl) Cmp2.eqI
/-! ### are_names -/
def rAn : List Dat → Dat → Prop := fun ds d => ∃ ks : List Str, ks.Nodup ∧ 1 ≤ ks.length ∧ ks.length ≤ 6 ∧ (∀ k ∈ ks, NameOk k) ∧ ds = [tS ks] ∧ d = .bool true
def nAn : List Str := ["thing", "item"]
theorem scAn : FnScope nAn ["thing"] (defScope (top 48)) := ⟨rfl, rfl, rfl, by decide +kernel, rfl, by decide +kernel, by decide +kernel⟩
theorem allTrue {α : Type} (l : List α) : (l.map fun _ => true).all id = true := by
  rw [List.all_map, List.all_eq_true]
  exact fun _ _ => rfl
theorem CallD.allT {X : Cx} {α : Type} (g : Gx X) (l : List α) : CallD X (.builtin "all") [.list ((l.map fun _ => true).map Dat.bool)] (.bool true) := by
  have := CallD.all g (bs := l.map fun _ => true)
  rwa [allTrue] at this
theorem okAn (B : Bs K mg) (F : Stands K mg "are_names" (top 48)) (S : Gs mg) (inm : Has P w K mg base 1 "is_name" (PurSp K rIn)) : Has P w K mg base 2 "are_names" (PurSp K rAn) := by
  refine Has.pur F B scAn (fun _ _ _ _ _ _ us hl => match us, hl with | [_], _ => rfl) (fun ds d ⟨_, _, _, _, _, e, _⟩ => by rw [e]; rfl) fun ds d ⟨ks, nk, h1, h2, hn, hds, hd⟩ f cdv A outer s H g hr => ?_
  subst hds hd
  have nd := scAn.nd
  have len : (dS ks).length = ks.length := List.length_map _
  refine Run.cons (RunS.if_ (EvTP.t (EvWP.t (EvWP.or (EvTP.not (EvTP.val (EvP.isInst (T := "tuple") (.var (i := 0) rfl) rfl (B.free _ (by decide)) (B.free _ (by decide))))) fun _ => EvWP.or1 (EvTP.not (EvTP.chain (k1 := true) (k2 := true) .int (EvP.callB (fid := "len") (.cons (.var (i := 0) rfl) .nil) CallD.lenT (B.free _ (by decide))) (EvP.globInt S.k6) ?_ ?_)))) ?_))
  · have : (true : Bool) = decide ((1 : Int) ≤ ((dS ks).length : Nat)) := (decide_eq_true (by omega)).symm
    rw [this]; exact Cmp2.le
  · have : (true : Bool) = decide ((((dS ks).length : Nat) : Int) ≤ 6) := (decide_eq_true (by omega)).symm
    rw [this]; exact Cmp2.le
  refine Run.nil ?_
  have e : decide (((ks.length : Nat) : Int) = ((dS ks).length : Nat)) = true := decide_eq_true (by omega)
  refine Run.one (RunS.retP (d := .bool (true && true)) (EvP.and (EvP.callB (fid := "all") (.cons (d := .list ((ks.map fun _ => true).map Dat.bool)) ?_ .nil) (CallD.allT g ks) B.all) fun _ => EvP.one ?_) rfl)
  · refine EvP.cast (EvP.comp (own := [("item", 1)]) (ds := dS ks) (b := fun _ => true) (r := fun d => .bool true) (f := fun d => [.im (tS ks), .im d]) rfl nd (blkOk_by (N := nAn) (sc := defScope (top 48)) (by decide +kernel))
      (.tup (.var (i := 0) rfl)) (fun d hd s H C cl fp => AsDV.name (i := 1) nd) (fun d hd s H C cl fp => ?_) (fun d hd _ s H C cl fp => ?_) (len1000 (by omega) _)) ?_
    · rfl
    · obtain ⟨z, hz, rfl⟩ := List.mem_map.mp hd
      exact EvP.own g.blk inm hr (.cons (.var (i := 1) rfl) .nil) ⟨z, hn z hz, rfl, rfl⟩
    · rw [keptAll, List.map_map, List.map_map]; rfl
  · rw [← e]
    exact EvP.cmp (EvP.lenSet g (.var (i := 0) rfl) nk (by omega) (B.free _ (by decide)) (B.free _ (by decide))) (EvP.callB (fid := "len") (.cons (.var (i := 0) rfl) .nil) CallD.lenT (B.free _ (by decide))) Cmp2.eqI
/-! ### in_order -/
def rIo : List Dat → Dat → Prop := fun ds d => ∃ ks c : List Str, ks.length ≤ 6 ∧ ds = [tS ks, cD c] ∧ d = tS (ks.filter fun k => decide (k ∈ c))
def nIo : List Str := ["kinds", "part", "kind"]
theorem scIo : FnScope nIo ["kinds", "part"] (defScope (top 49)) := ⟨rfl, rfl, rfl, by decide +kernel, rfl, by decide +kernel, by decide +kernel⟩
theorem okIo (B : Bs K mg) (F : Stands K mg "in_order" (top 49)) : Has P w K mg base 1 "in_order" (PurSp K rIo) := by
  refine Has.pur F B scIo (fun _ _ _ _ _ _ us hl => match us, hl with | [_, _], _ => rfl) (fun ds d ⟨_, _, _, e, _⟩ => by rw [e]; rfl) fun ds d ⟨ks, c, hl, hds, hd⟩ f cdv A outer s H g hr => ?_
  subst hds hd
  have nd := scIo.nd
  refine Run.one (RunS.retP (d := tS (ks.filter fun k => decide (k ∈ c))) (EvP.callT (T := "tuple") (.cons (d := lS (ks.filter fun k => decide (k ∈ c))) ?_ .nil) CallD.tupL (B.free _ (by decide))) rfl)
  refine EvP.cast (EvP.comp (own := [("kind", 2)]) (ds := dS ks) (b := fun d => decide (sOf d ∈ c)) (r := id) (f := fun d => [.im (tS ks), .im (cD c), .im d]) rfl nd (blkOk_by (N := nIo) (sc := defScope (top 49)) (by decide +kernel))
    (.tup (.var (i := 0) rfl)) (fun d hd s H C cl fp => AsDV.name (i := 2) nd) (fun d hd s H C cl fp => ?_) (fun d hd _ s H C cl fp => .var (i := 2) rfl) (len1000 (by omega) _)) ?_
  · obtain ⟨o, ho, rfl⟩ := List.mem_map.mp hd
    exact EvTP.cmp (.var (i := 2) rfl) (.var (i := 1) rfl) Cmp2.inFS
  · exact congrArg Dat.list (keptS (fun o => decide (o ∈ c)) id Dat.str (fun _ => rfl) _)
end
end K94
end

/-! text WQ -/
section
set_option Elab.async false
set_option autoImplicit false
set_option linter.all false
set_option maxRecDepth 100000
set_option maxHeartbeats 4000000
/-! forms: a house -/
namespace K94
open PySem PySem.Spec PyProof.Rows L2
open PySem.W (EachIs AllAlike Sortable dataLt dataLe alike alikeAll SortsAt dataKind sortVals)

theorem alikeS : ∀ p q : List Str, alikeAll (pyAll (dS p)) (pyAll (dS q)) = true
  | [], [] => rfl
  | [], _ :: _ => rfl
  | _ :: _, [] => rfl
  | a :: p, b :: q => alikeS p q
section
variable {P : Program} {w : World} {K : PySem.W.Frag} {mg : Str → Option Value} {base : Heap} {k : Nat}
/-! ### is_part -/
def rIp : List Dat → Dat → Prop := fun ds d => ∃ ks c : List Str, ks.length ≤ 6 ∧ ks.filter (fun k => decide (k ∈ c)) = c ∧ (∀ k ∈ c, PyData.strOk k = true) ∧ ds = [tS ks, cD c] ∧ d = .bool true
def nIp : List Str := ["kinds", "thing", "item"]
theorem scIp : FnScope nIp ["kinds", "thing"] (defScope (top 50)) := ⟨rfl, rfl, rfl, by decide +kernel, rfl, by decide +kernel, by decide +kernel⟩
theorem okIp (B : Bs K mg) (F : Stands K mg "is_part" (top 50)) (io : Has P w K mg base 1 "in_order" (PurSp K rIo)) : Has P w K mg base 2 "is_part" (PurSp K rIp) := by
  refine Has.pur F B scIp (fun _ _ _ _ _ _ us hl => match us, hl with | [_, _], _ => rfl) (fun ds d ⟨_, _, _, _, _, e, _⟩ => by rw [e]; rfl) fun ds d ⟨ks, c, hl, hc, hs, hds, hd⟩ f cdv A outer s H g hr => ?_
  subst hds hd
  have nd := scIp.nd
  have lc : c.length ≤ 6 := by rw [← hc]; exact Nat.le_trans (List.length_filter_le _ _) hl
  refine Run.cons (RunS.if_ (EvTP.t (EvWP.t (EvWP.or (EvTP.not (EvTP.val (EvP.isInst (T := "tuple") (.var (i := 1) rfl) rfl (B.free _ (by decide)) (B.free _ (by decide))))) fun _ => EvWP.or1 (EvTP.not (EvTP.val (EvP.callB (fid := "all") (.cons (d := .list ((c.map fun _ => true).map Dat.bool)) ?_ .nil) (CallD.allT g c) B.all))))) ?_))
  · refine EvP.cast (EvP.comp (own := [("item", 2)]) (ds := dS c) (b := fun _ => true) (r := fun d => .bool true) (f := fun d => [.im (tS ks), .im (cD c), .im d]) rfl nd (blkOk_by (N := nIp) (sc := defScope (top 50)) (by decide +kernel))
      (.ftup (.var (i := 1) rfl)) (fun d hd s H C cl fp => AsDV.name (i := 2) nd) (fun d hd s H C cl fp => ?_) (fun d hd _ s H C cl fp => ?_) (len1000 (by omega) _)) ?_
    · rfl
    · obtain ⟨z, hz, rfl⟩ := List.mem_map.mp hd
      exact EvP.isInst (T := "str") (.var (i := 2) rfl) rfl (B.free _ (by decide)) (B.free _ (by decide))
    · rw [keptAll, List.map_map, List.map_map]; rfl
  refine Run.nil ?_
  have e : PyData.eqv (tS c).py (cD c).py = true := by
    show PyData.eqvAll (pyAll (dS c)) (pyAll (dS c)) = true
    rw [eqvS]; simp
  refine Run.one (RunS.retP (d := .bool true) ?_ rfl)
  rw [← e]
  exact EvP.cmp (EvP.cast (EvP.own g io hr (.cons (.var (i := 0) rfl) (.cons (.var (i := 1) rfl) .nil)) ⟨ks, c, hl, rfl, rfl⟩) (congrArg tS hc)) (.var (i := 1) rfl) (Cmp2.eqD g (shapedS hs) (shapedS hs))
/-! ### is_house -/
def rIh : List Dat → Dat → Prop := fun ds d => ∃ h : Hs, HouseOk h ∧ ds = [h.dat] ∧ d = .bool true
def nIh : List Str := ["thing", "kinds", "calls", "call", "one", "other", "kind"]
theorem scIh : FnScope nIh ["thing"] (defScope (top 51)) := ⟨rfl, rfl, rfl, by decide +kernel, rfl, by decide +kernel, by decide +kernel⟩
theorem okIh (B : Bs K mg) (F : Stands K mg "is_house" (top 51)) (S : Gs mg) (it : Has P w K mg base 1 "is_tuple_of" (PurSp K rIt)) (an : Has P w K mg base 2 "are_names" (PurSp K rAn)) (ip : Has P w K mg base 2 "is_part" (PurSp K rIp)) : Has P w K mg base 3 "is_house" (PurSp K rIh) := by
  refine Has.pur F B scIh (fun _ _ _ _ _ _ us hl => match us, hl with | [_], _ => rfl) (fun ds d ⟨_, _, e, _⟩ => by rw [e]; rfl) fun ds d ⟨h, o, hds, hd⟩ f cdv A outer s H g hr => ?_
  subst hds hd
  have nd := scIh.nd
  have len : (h.cs.map cD).length = h.cs.length := List.length_map _
  have c1 := o.c1
  have c8 := o.c8
  have k6 := o.k6
  refine Run.cons (RunS.if_ (EvTP.t (EvWP.t (EvWP.or (EvTP.not (EvTP.val (EvP.own g it (hr.mono (by decide)) (.cons (.var (i := 0) rfl) (.cons .int .nil)) ⟨_, 2, rfl, rfl⟩))) fun _ => EvWP.or1 (EvTP.not (EvTP.val (EvP.own g an hr (.cons (EvP.ix (.var (i := 0) rfl) .int (Ix2.tup atI0)) .nil) ⟨h.ks, o.nd, o.k1, o.k6, o.nm, rfl, rfl⟩))))) ?_))
  refine Run.nil ?_
  refine Run.cons (RunS.asg (EvP.i (.var (i := 0) rfl) ⟨_, AsD.pair (i := 1) (j := 2) (d1 := tS h.ks) (d2 := .tuple (h.cs.map cD)) rfl nd, ?_⟩))
  refine Run.cons (RunS.if_ (EvTP.t (EvWP.t (EvWP.or (EvTP.not (EvTP.val (EvP.isInst (T := "tuple") (.var (i := 2) rfl) rfl (B.free _ (by decide)) (B.free _ (by decide))))) fun _ => EvWP.or1 (EvTP.not (EvTP.chain (k1 := true) (k2 := true) .int (EvP.callB (fid := "len") (.cons (.var (i := 2) rfl) .nil) CallD.lenT (B.free _ (by decide))) (EvP.globInt S.c8) ?_ ?_)))) ?_))
  · have : (true : Bool) = decide ((1 : Int) ≤ ((h.cs.map cD).length : Nat)) := (decide_eq_true (by omega)).symm
    rw [this]; exact Cmp2.le
  · have : (true : Bool) = decide ((((h.cs.map cD).length : Nat) : Int) ≤ 8) := (decide_eq_true (by omega)).symm
    rw [this]; exact Cmp2.le
  refine Run.nil ?_
  refine Run.cons (RunS.if_ (EvTP.t (EvTP.not (EvTP.val (EvP.callB (fid := "all") (.cons (d := .list ((h.cs.map fun _ => true).map Dat.bool)) ?_ .nil) (CallD.allT g h.cs) B.all))) ?_))
  · refine EvP.cast (EvP.comp (own := [("call", 3)]) (ds := h.cs.map cD) (b := fun _ => true) (r := fun d => .bool (true && true)) (f := fun d => [.im h.dat, .im (tS h.ks), .im (.tuple (h.cs.map cD)), .im d, .no, .no, .no]) rfl nd (blkOk_by (N := nIh) (sc := defScope (top 51)) (by decide +kernel))
      (.tup (.var (i := 2) rfl)) (fun d hd s H C cl fp => AsDV.name (i := 3) nd) (fun d hd s H C cl fp => ?_) (fun d hd _ s H C cl fp => ?_) (len1000 (by omega) _)) ?_
    · rfl
    · obtain ⟨c, hc, rfl⟩ := List.mem_map.mp hd
      refine EvP.and (EvP.own g.blk ip hr (.cons (.var (i := 1) rfl) (.cons (.var (i := 3) rfl) .nil)) ⟨h.ks, c, o.k6, o.ord c hc, o.str hc, rfl, rfl⟩) fun _ => EvP.one ?_
      have e : (!PyData.eqv (cD c).py (Dat.tuple []).py) = true := by
        have := o.ne c hc
        cases c with
        | nil => exact absurd rfl this
        | cons a c => rfl
      rw [← e]
      exact EvP.cmp (.var (i := 3) rfl) (.tup .nil) (Cmp2.neD g.blk (shapedS (o.str hc)) (shapedS (p := []) fun k hk => absurd hk List.not_mem_nil))
    · rw [keptAll, List.map_map, List.map_map]; rfl
  refine Run.nil ?_
  have lz : (zipD (h.cs.map cD) (h.cs.map cD).tail).length ≤ 100 := by rw [zipD_len, len, List.length_tail, len]; omega
  have ct : cutD (h.cs.map cD) (some ((1 : Nat) : Int)) none = (h.cs.map cD).tail := by rw [cutFrom _ (by omega), List.drop_one]
  refine Run.cons (RunS.if_ (EvTP.t (EvTP.not (EvTP.val (EvP.callB (fid := "all") (.cons (d := .list (((h.cs.zip h.cs.tail).map fun _ => true).map Dat.bool)) ?_ .nil) (CallD.allT g _) B.all))) ?_))
  · refine EvP.cast (EvP.comp (own := [("one", 4), ("other", 5)]) (ds := zipD (h.cs.map cD) (h.cs.map cD).tail) (b := fun _ => true) (r := fun d => .bool true) (f := fun d => match d with | .tuple [a, b] => [.im h.dat, .im (tS h.ks), .im (.tuple (h.cs.map cD)), .no, .im a, .im b, .no] | _ => []) rfl nd (blkOk_by (N := nIh) (sc := defScope (top 51)) (by decide +kernel))
      (.zipT (.var (i := 2) rfl) (EvP.cast (EvP.slice (.var (i := 2) rfl) (EvOP.some_ (k := ((1 : Nat) : Int)) .int) EvOP.none_ Sl2.tup) (congrArg Dat.tuple ct)) (B.free _ (by decide))) (fun d hd s H C cl fp => ?_) (fun d hd s H C cl fp => ?_) (fun d hd _ s H C cl fp => ?_) (by omega)) ?_
    · obtain ⟨⟨a, b⟩, hab, rfl⟩ := List.mem_map.mp hd
      exact AsDV.pair (i := 4) (j := 5) rfl nd
    · rfl
    · obtain ⟨⟨a, b⟩, hab, rfl⟩ := List.mem_map.mp hd
      rw [← List.map_tail, List.zip_map] at hab
      obtain ⟨⟨x, y⟩, hxy, e⟩ := List.mem_map.mp hab
      cases e
      rw [← o.lt _ hxy]
      refine EvP.cmp (.var (i := 4) rfl) (.var (i := 5) rfl) (Cmp2.ltD g.blk (alikeS x y) (fun z => nomatch z) ?_)
      show PyData.depthAll (pyAll (dS x)) + 1 ≤ 50
      rw [depthS]; decide
    · rw [keptAll, ← List.map_tail]
      show Dat.list (((h.cs.map cD).zip (h.cs.tail.map cD)).map (fun p => Dat.tuple [p.1, p.2]) |>.map fun d => .bool true) = _
      rw [List.zip_map, List.map_map, List.map_map, List.map_map]; rfl
  refine Run.nil ?_
  refine Run.one (RunS.retP (d := .bool true) (EvP.callB (fid := "all") (.cons (d := .list ((h.ks.map fun _ => true).map Dat.bool)) ?_ .nil) (CallD.allT g h.ks) B.all) rfl)
  refine EvP.cast (EvP.comp (own := [("kind", 6)]) (ds := dS h.ks) (b := fun _ => true) (r := fun d => .bool ((h.cs.map fun c => decide (sOf d ∈ c)).any id)) (f := fun d => [.im h.dat, .im (tS h.ks), .im (.tuple (h.cs.map cD)), .no, .no, .no, .im d]) rfl nd (blkOk_by (N := nIh) (sc := defScope (top 51)) (by decide +kernel))
    (.tup (.var (i := 1) rfl)) (fun d hd s H C cl fp => AsDV.name (i := 6) nd) (fun d hd s H C cl fp => ?_) (fun d hd _ s H C cl fp => ?_) (len1000 (by omega) _)) ?_
  · rfl
  · obtain ⟨z, hz, rfl⟩ := List.mem_map.mp hd
    refine EvP.callB (fid := "any") (.cons (d := .list ((h.cs.map fun c => decide (z ∈ c)).map Dat.bool)) ?_ .nil) (CallD.any g.blk) (B.free _ (by decide))
    refine EvP.cast (EvP.comp (own := [("call", 3)]) (ds := h.cs.map cD) (b := fun _ => true) (r := fun d => .bool (decide (z ∈ ssOf d))) (f := fun d => [.im h.dat, .im (tS h.ks), .im (.tuple (h.cs.map cD)), .im d, .no, .no, .im (.str z)]) rfl nd (blkIn (N := nIh) (sc := defScope (top 51)) (by decide +kernel))
      (.tup (.var (i := 2) rfl)) (fun d hd s H C cl fp => AsDV.name (i := 3) nd) (fun d hd s H C cl fp => ?_) (fun d hd _ s H C cl fp => ?_) (len1000 (by omega) _)) ?_
    · rfl
    · obtain ⟨c, hc, rfl⟩ := List.mem_map.mp hd
      have : ssOf (cD c) = c := ssOf_tS c
      rw [this]
      exact EvP.cmp (.var (i := 6) rfl) (.var (i := 3) rfl) Cmp2.inFS
    · rw [keptAll, List.map_map, List.map_map]
      refine congrArg Dat.list (List.map_congr_left fun c _ => ?_)
      show Dat.bool (decide (z ∈ ssOf (cD c))) = _
      have : ssOf (cD c) = c := ssOf_tS c
      rw [this]; rfl
  · rw [keptAll, List.map_map, List.map_map]
    refine congrArg Dat.list (List.map_congr_left fun z hz => congrArg Dat.bool ?_)
    rw [List.any_map, List.any_eq_true]
    obtain ⟨c, hc, hzc⟩ := o.cov z hz
    exact ⟨c, hc, decide_eq_true hzc⟩
/-! ### is_set, is_kind, is_call -/
def rIs2 : List Dat → Dat → Prop := fun ds d => ∃ (h : Hs) (c : List Str), HouseOk h ∧ c ∈ h.cs ∧ ds = [h.dat, cD c] ∧ d = .bool true
def nIs2 : List Str := ["house", "thing"]
theorem scIs2 : FnScope nIs2 ["house", "thing"] (defScope (top 52)) := ⟨rfl, rfl, rfl, by decide +kernel, rfl, by decide +kernel, by decide +kernel⟩
theorem okIs2 (B : Bs K mg) (F : Stands K mg "is_set" (top 52)) (ip : Has P w K mg base 2 "is_part" (PurSp K rIp)) : Has P w K mg base 3 "is_set" (PurSp K rIs2) := by
  refine Has.pur F B scIs2 (fun _ _ _ _ _ _ us hl => match us, hl with | [_, _], _ => rfl) (fun ds d ⟨_, _, _, _, e, _⟩ => by rw [e]; rfl) fun ds d ⟨h, c, o, hc, hds, hd⟩ f cdv A outer s H g hr => ?_
  subst hds hd
  exact Run.one (RunS.retP (EvP.own g ip hr (.cons (EvP.ix (.var (i := 0) rfl) .int (Ix2.tup atI0)) (.cons (.var (i := 1) rfl) .nil)) ⟨h.ks, c, o.k6, o.ord c hc, o.str hc, rfl, rfl⟩) rfl)
def rIk : List Dat → Dat → Prop := fun ds d => ∃ (h : Hs) (z : Str), z ∈ h.ks ∧ ds = [h.dat, .str z] ∧ d = .bool true
theorem scIk : FnScope nIs2 ["house", "thing"] (defScope (top 53)) := ⟨rfl, rfl, rfl, by decide +kernel, rfl, by decide +kernel, by decide +kernel⟩
theorem okIk (B : Bs K mg) (F : Stands K mg "is_kind" (top 53)) : Has P w K mg base 1 "is_kind" (PurSp K rIk) := by
  refine Has.pur F B scIk (fun _ _ _ _ _ _ us hl => match us, hl with | [_, _], _ => rfl) (fun ds d ⟨_, _, _, e, _⟩ => by rw [e]; rfl) fun ds d ⟨h, z, hz, hds, hd⟩ f cdv A outer s H g hr => ?_
  subst hds hd
  refine Run.one (RunS.retP (d := .bool (true && true)) (EvP.and (EvP.isInst (T := "str") (.var (i := 1) rfl) rfl (B.free _ (by decide)) (B.free _ (by decide))) fun _ => EvP.one ?_) rfl)
  have e : decide (z ∈ h.ks) = true := decide_eq_true hz
  rw [← e]
  exact EvP.cmp (.var (i := 1) rfl) (EvP.ix (.var (i := 0) rfl) .int (Ix2.tup atI0)) Cmp2.inTS
theorem scIc : FnScope nIs2 ["house", "thing"] (defScope (top 54)) := ⟨rfl, rfl, rfl, by decide +kernel, rfl, by decide +kernel, by decide +kernel⟩
theorem okIc (B : Bs K mg) (F : Stands K mg "is_call" (top 54)) (is2 : Has P w K mg base 3 "is_set" (PurSp K rIs2)) : Has P w K mg base 4 "is_call" (PurSp K rIs2) := by
  refine Has.pur F B scIc (fun _ _ _ _ _ _ us hl => match us, hl with | [_, _], _ => rfl) (fun ds d ⟨_, _, _, _, e, _⟩ => by rw [e]; rfl) fun ds d ⟨h, c, o, hc, hds, hd⟩ f cdv A outer s H g hr => ?_
  subst hds hd
  refine Run.one (RunS.retP (d := .bool (true && true)) (EvP.and (EvP.own g is2 hr (.cons (.var (i := 0) rfl) (.cons (.var (i := 1) rfl) .nil)) ⟨h, c, o, hc, rfl, rfl⟩) fun _ => EvP.one ?_) rfl)
  have e : (pyAll (h.cs.map cD)).any (fun z => PyData.eqv z (cD c).py) = true := by
    rw [pyAll_map, List.any_map, List.any_map, List.any_eq_true]
    refine ⟨c, hc, ?_⟩
    show PyData.eqvAll (pyAll (dS c)) (pyAll (dS c)) = true
    rw [eqvS]; simp
  rw [← e]
  exact EvP.cmp (.var (i := 1) rfl) (EvP.ix (.var (i := 0) rfl) .int (Ix2.tup atI1)) (Cmp2.inT g (shapedS (o.str hc)) (shapedC fun c hc => o.str hc))
end
end K94
end

/-! text WR -/
section
set_option Elab.async false
set_option autoImplicit false
set_option linter.all false
set_option maxRecDepth 100000
set_option maxHeartbeats 4000000
/-! the store: made -/
namespace K94
open PySem PySem.Spec PyProof.Rows L2

/-- a method of the text stands -/
def StandsM (K : PySem.W.Frag) (C : Addr) (m qual : Str) (st : Stmt) : Prop := ∃ f fd, FunD K m qual (defArgs st) (defBody st) (defScope st) [] [] f fd ∧ Meth K C m f
section
variable {P : Program} {w : World} {K : PySem.W.Frag} {mg : Str → Option Value} {base : Heap} {k : Nat} {x m qual : Str} {st : Stmt} {N ps : List Str} {C : Addr}
abbrev CxM (P : Program) (w : World) (K : PySem.W.Frag) (mg : Str → Option Value) (base : Heap) (N : List Str) (qual : Str) (st : Stmt) (f : Addr) (cdv : Value) (A : Around) (outer : List Env) (s : Shared) (H : Hp) : Cx := cxOf CX0 P w K mg base N qual (defScope st) f cdv A outer s H Eno
def BindM (m qual : Str) (st : Stmt) (ps : List Str) : Prop := ∀ (kV doc pm : Value) (an : Option Addr) (cdv ct : Value) (us : List Value), us.length = ps.length → bindArgs (PySem.W.fnOf m qual (defArgs st) (defBody st) (defScope st) .none kV doc pm an cdv ct) ⟨us, []⟩ = pure (ps.zip us)
theorem HasM.bor {R : Ow → List Dat → (Dat → Ow → Prop) → Prop} (F : StandsM K C m qual st) (B : Bs K mg) (S : FnScope N ps (defScope st)) (hb : BindM m qual st ps) (many : ∀ o ds Φ, R o ds Φ → ds.length + 1 = ps.length)
    (h : ∀ (a : Addr) (o : Ow) (ds : List Dat) (Φ : Dat → Ow → Prop), R o ds Φ → ∀ (f : Addr) (cdv : Value) (A : Around) (outer : List Env) (s : Shared) (H : Hp), Gx (CxM P w K mg base N qual st f cdv A outer s H) → Room k (CxM P w K mg base N qual st f cdv A outer s H).A →
      Run (CxM P w K mg base N qual st f cdv A outer s H) (entry N (.ow a o :: ds.map Cell.im)) (defBody st) (BorOut a o Φ)) : HasM P w K mg base (k + 1) C m (BorSp K R) := by
  obtain ⟨f, fd, F, hm⟩ := F
  exact ⟨f, fd, ps, FnG.bor F S B.sm many fun a o ds Φ hR cdv A outer s H g hr => h a o ds Φ hR f cdv A outer s H g hr, hm, F.bindsN hb⟩
/-! ### __init__ -/
def nInit : List Str := ["self", "house"]
theorem scInit : FnScope nInit ["self", "house"] (defScope (mst 1)) := ⟨rfl, rfl, rfl, by decide +kernel, rfl, by decide +kernel, by decide +kernel⟩
def HouseD (d : Dat) : Prop := ∃ h : Hs, HouseOk h ∧ d = h.dat
theorem okInit (B : Bs K mg) (c : StC K C) (f : Addr) (fd : FuncData) (F : FunD K "__init__" "Store.__init__" (defArgs (mst 1)) (defBody (mst 1)) (defScope (mst 1)) [] [] f fd) (ih : Has P w K mg base 3 "is_house" (PurSp K rIh)) : FnG P w K mg base 4 f fd ["self", "house"] (InitSp K C HouseD) := by
  refine FnG.body F scInit (fun vs H Q ⟨_, _, _, _, _, e, _⟩ => by rw [e]; rfl) fun cdv A outer s H vs Q hr gd ⟨G, y, dx, hv, hd, evs, ⟨h, ho, ehd⟩, wd, hy, hdx, ne, gy, gdx, rv, q⟩ => ?_
  subst evs ehd
  have nd := scInit.nd
  have g : Gx (CxM P w K mg base nInit "Store.__init__" (mst 1) f cdv A outer s H) := gxOf B.sm hr gd
  have mt : Mt K G H [some (.ref y), some hv] [.no, .im h.dat] := ⟨wd, .cons trivial (.cons ⟨hv, rfl, rv⟩ .nil), sepEmpty rfl⟩
  have vh : ∀ pos, PE (CxM P w K mg base nInit "Store.__init__" (mst 1) f cdv A outer s H) (.Name "house" pos) (tVar 1) := fun pos => pe_var (i := 1) (x := "house") rfl (Or.inl rfl)
  have vs : ∀ pos, PE (CxM P w K mg base nInit "Store.__init__" (mst 1) f cdv A outer s H) (.Name "self" pos) (tVar 0) := fun pos => pe_var (i := 0) (x := "self") rfl (Or.inl rfl)
  refine PSs.w (pss_cons (ps_if ptW pssW pssW) (pss_one (ps_asg (pe_tup (pa_cons (vh _) (pa_cons (pe_lst pa_nil) (pa_cons (pe_lst pa_nil) (pa_cons pe_dnewK pa_nil)))))
    (pg_tup rfl (pgs_cons (pg_sl (vs _)) (pgs_cons (pg_sl (vs _)) (pgs_cons (pg_sl (vs _)) (pgs_cons (pg_sl (vs _)) pgs_nil))))))))
    ?_
  refine EvTP.not (X := CxM P w K mg base nInit "Store.__init__" (mst 1) f cdv A outer s H) (δ := [.no, .im h.dat]) (c := true) (EvTP.val (EvP.own g ih hr (.cons (.var (i := 1) rfl) .nil) ⟨h, ho, rfl, rfl⟩)) _ G H mt _ fun G1 H1 w1 ex1 => ?_
  refine PSs.w pss_nil ?_
  have hy1 := ex1.hh y _ hy List.not_mem_nil
  have hdx1 := ex1.hh dx _ hdx List.not_mem_nil
  have gy1 := ex1.nn y _ hy gy List.not_mem_nil
  have gdx1 := ex1.nn dx _ hdx gdx List.not_mem_nil
  refine ⟨hv, rfl, Nat.zero_le _, fun ra nra => ⟨Nat.zero_le _, fun ta nta => fun na nna => ⟨(show (4 : Nat) ≤ sizeLine by decide), fun p np => ?_⟩⟩⟩
  have ny : ∀ b, H1 b = none → b ≠ y := fun b e z => by rw [z, hy1] at e; cases e
  have ndx : ∀ b, H1 b = none → b ≠ dx := fun b e z => by rw [z, hdx1] at e; cases e
  have ta_ra : ta ≠ ra := fun z => by rw [z, upd_same] at nta; cases nta
  have nta1 : H1 ta = none := by rwa [upd_ne ta_ra] at nta
  have na_ta : na ≠ ta := fun z => by rw [z, upd_same] at nna; cases nna
  have nna1 : (upd H1 ra (.lst [])) na = none := by rwa [upd_ne na_ta] at nna
  have na_ra : na ≠ ra := fun z => by rw [z, upd_same] at nna1; cases nna1
  have nna2 : H1 na = none := by rwa [upd_ne na_ra] at nna1
  have p_na : p ≠ na := fun z => by rw [z, upd_same] at np; cases np
  have np1 : (upd (upd H1 ra (.lst [])) ta (.lst [])) p = none := by rwa [upd_ne p_na] at np
  have p_ta : p ≠ ta := fun z => by rw [z, upd_same] at np1; cases np1
  have np2 : (upd H1 ra (.lst [])) p = none := by rwa [upd_ne p_ta] at np1
  have p_ra : p ≠ ra := fun z => by rw [z, upd_same] at np2; cases np2
  have np3 : H1 p = none := by rwa [upd_ne p_ra] at np2
  have w2 : Wd G1 (upd H1 ra (.lst [])) := w1.own (w1.none nra) (lstNe _)
  have w3 : Wd G1 (upd (upd H1 ra (.lst [])) ta (.lst [])) := w2.own (w1.none nta1) (lstNe _)
  have w4 : Wd G1 (upd (upd (upd H1 ra (.lst [])) ta (.lst [])) na (.dK [])) := w3.own (w1.none nna2) (dkNe _)
  have w5 := w4.new (o := .tup [hv, .ref ra, .ref ta, .ref na]) np
  generalize e5 : upd (upd (upd (upd H1 ra (.lst [])) ta (.lst [])) na (.dK [])) p (.tup [hv, .ref ra, .ref ta, .ref na]) = H5 at w5
  generalize eG : upd G1 p (HO.tup [hv, .ref ra, .ref ta, .ref na]) = G5 at w5
  have h5y : H5 y = some (.ins C dx []) := by rw [← e5, upd_ne (ny p np3).symm, upd_ne (ny na nna2).symm, upd_ne (ny ta nta1).symm, upd_ne (ny ra nra).symm, hy1]
  have h5p : H5 p = some (.tup [hv, .ref ra, .ref ta, .ref na]) := by rw [← e5]; exact upd_same
  obtain ⟨p0, t0⟩ := c.s0
  obtain ⟨p1, t1⟩ := c.s1
  obtain ⟨p2, t2⟩ := c.s2
  obtain ⟨p3, t3⟩ := c.s3
  show gTup _ _ _ _ _ H5 _
  refine ⟨p, _, rfl, SqT.of h5p, rfl, hv, _, rfl, .ref y, rfl, y, C, dx, p0, [], 0, rfl, .inl ⟨h5y, rfl⟩, c.cls, t0, ?_⟩
  refine ⟨.ref ra, _, rfl, .ref y, rfl, y, C, dx, p1, _, 2, rfl, SlX.slH_slt ne, c.cls, t1, ?_⟩
  rw [SlX.slH_twice ne]
  refine ⟨.ref ta, _, rfl, .ref y, rfl, y, C, dx, p2, _, 3, rfl, SlX.slH_slt ne, c.cls, t2, ?_⟩
  rw [SlX.slH_twice ne]
  refine ⟨.ref na, _, rfl, .ref y, rfl, y, C, dx, p3, _, 1, rfl, SlX.slH_slt ne, c.cls, t3, ?_⟩
  rw [SlX.slH_twice ne]
  refine ⟨rfl, ?_⟩
  have eV : SlX.putS 1 (.ref na) (SlX.putS 3 (.ref ta) (SlX.putS 2 (.ref ra) (SlX.putS 0 hv []))) = [some hv, some (.ref na), some (.ref ra), some (.ref ta)] := rfl
  show Q .non (SlX.slH H5 y C dx _)
  rw [eV]
  have none_ : ∀ b, H1 b = none → H b = none := fun b e => by
    cases hb : H b with
    | none => rfl
    | some u => have := ex1.hh b u hb List.not_mem_nil; rw [e] at this; cases this
  have at5 : ∀ b u, H1 b = some u → H5 b = some u := fun b u e => by
    have ne_ : ∀ c, H1 c = none → b ≠ c := fun c ec z => by rw [z, ec] at e; cases e
    rw [← e5, upd_ne (ne_ p np3), upd_ne (ne_ na nna2), upd_ne (ne_ ta nta1), upd_ne (ne_ ra nra), e]
  have gp : G1 p = none := w1.none np3
  have g5 : ∀ b, b ≠ p → G1 b = none → G5 b = none := fun b e e2 => by rw [← eG, upd_ne e, e2]
  have gy5 : G5 y = none := g5 y (ny p np3).symm gy1
  have gdx5 : G5 dx = none := g5 dx (ndx p np3).symm gdx1
  have gra : G5 ra = none := g5 ra p_ra.symm (w1.none nra)
  have gta : G5 ta = none := g5 ta p_ta.symm (w1.none nta1)
  have gna : G5 na = none := g5 na p_na.symm (w1.none nna2)
  have hra : H5 ra = some (.lst []) := by rw [← e5, upd_ne p_ra.symm, upd_ne na_ra.symm, upd_ne ta_ra.symm, upd_same]
  have hta : H5 ta = some (.lst []) := by rw [← e5, upd_ne p_ta.symm, upd_ne na_ta.symm, upd_same]
  have hna : H5 na = some (.dK []) := by rw [← e5, upd_ne p_na.symm, upd_same]
  have le5 : Le G1 G5 := by rw [← eG]; exact Le.upd gp
  have w6 : Wd G5 (SlX.slH H5 y C dx [some hv, some (.ref na), some (.ref ra), some (.ref ta)]) := (w5.own (o := .xd []) gdx5 (fun _ z => nomatch z)).own gy5 (fun _ z => by unfold SlX.SlO at z; cases z)
  refine q G5 _ ra ta na ⟨⟨hv, rv.mono (ex1.gg.trans le5), SlX.slH_slt ne⟩, ?_, ?_, ⟨[], ?_, .nil⟩, ⟨[], ?_, .nil⟩, [], ?_, .nil⟩ w6 ⟨ex1.gg.trans le5, fun b u hb hn => ?_, fun b hb => ?_, fun b u hb hg hn => ?_⟩
  · intro b hb
    simp only [List.mem_cons, List.not_mem_nil, or_false] at hb
    rcases hb with rfl | rfl | rfl | rfl | rfl <;> assumption
  · simp only [List.nodup_cons, List.mem_cons, List.not_mem_nil, or_false, not_or, not_false_eq_true, List.nodup_nil, and_true]
    exact ⟨⟨ne.symm, (ny ra nra).symm, (ny ta nta1).symm, (ny na nna2).symm⟩, ⟨(ndx ra nra).symm, (ndx ta nta1).symm, (ndx na nna2).symm⟩, ⟨ta_ra.symm, na_ra.symm⟩, na_ta.symm⟩
  · rw [SlX.slH_ne (ny ra nra) (ndx ra nra)]; exact hra
  · rw [SlX.slH_ne (ny ta nta1) (ndx ta nta1)]; exact hta
  · rw [SlX.slH_ne (ny na nna2) (ndx na nna2)]; exact hna
  · simp only [List.mem_cons, List.not_mem_nil, or_false, not_or] at hn
    rw [SlX.slH_ne hn.1 hn.2]
    exact at5 b u (ex1.hh b u hb List.not_mem_nil)
  · simp only [List.mem_cons, List.not_mem_nil, or_false] at hb
    rcases hb with rfl | rfl | rfl | rfl | rfl
    · exact .inl List.mem_cons_self
    · exact .inl (List.mem_cons_of_mem _ List.mem_cons_self)
    · exact .inr (none_ _ nra)
    · exact .inr (none_ _ nta1)
    · exact .inr (none_ _ nna2)
  · refine g5 b (fun z => ?_) (ex1.nn b u hb hg List.not_mem_nil)
    have := ex1.hh b u hb List.not_mem_nil
    rw [z, np3] at this
    cases this
end
end K94
end

/-! text WS -/
section
set_option Elab.async false
set_option autoImplicit false
set_option linter.all false
set_option maxRecDepth 100000
set_option maxHeartbeats 4000000
/-! the store: its methods -/
namespace K94
open PySem PySem.Spec PyProof.Rows L2

def thD (t : Str × Str) : Dat := .tuple [.str t.1, .str t.2]
def stO (C dx ra ta na : Addr) (h : Hs) (rows : List Row) (things : List (Str × Str)) (names : List Str) : Ow := .st C dx ra ta na h.dat (rows.map Row.dat) (things.map thD) (names.map fun n => (.str n, .bool true))
theorem namesPut {names : List Str} {n : Str} (h : n ∉ names) : dputK (names.map fun n => (Dat.str n, Dat.bool true)) (.inr n) (.bool true) = (names ++ [n]).map fun n => (Dat.str n, Dat.bool true) := by
  rw [dputK_new, List.map_append]; rfl
  intro p hp
  obtain ⟨k, hk, rfl⟩ := List.mem_map.mp hp
  exact ⟨.inr k, rfl, fun e => by cases e; exact h hk⟩
def firstOf (things : List (Str × Str)) (c : List Str) : Option (Str × Str) := c.findSome? fun k => things.find? fun t => decide (t.2 = k)
def oTD : Option (Str × Str) → Dat
  | none => .none
  | some t => thD t
section
variable {P : Program} {w : World} {K : PySem.W.Frag} {mg : Str → Option Value} {base : Heap} {k : Nat} {C : Addr}
/-! ### put -/
def rSp (C : Addr) : Ow → List Dat → (Dat → Ow → Prop) → Prop := fun o ds Φ => ∃ (dx ra ta na : Addr) (h : Hs) (rows : List Row) (things : List (Str × Str)) (names : List Str) (n k : Str), k ∈ h.ks ∧ NameOk n ∧ n ∉ names ∧ rows.length ≤ 900 ∧ things.length ≤ 900 ∧ names.length ≤ 900 ∧ o = stO C dx ra ta na h rows things names ∧ ds = [.str n, .str k] ∧
  Φ .none (stO C dx ra ta na h (rows ++ [.put n k]) (things ++ [(n, k)]) (names ++ [n]))
def nSp : List Str := ["self", "name", "kind"]
theorem scSp : FnScope nSp ["self", "name", "kind"] (defScope (mst 2)) := ⟨rfl, rfl, rfl, by decide +kernel, rfl, by decide +kernel, by decide +kernel⟩
theorem okSp (B : Bs K mg) (c : StC K C) (F : StandsM K C "put" "Store.put" (mst 2)) (inm : Has P w K mg base 1 "is_name" (PurSp K rIn)) (ik : Has P w K mg base 1 "is_kind" (PurSp K rIk)) : HasM P w K mg base 2 C "put" (BorSp K (rSp C)) := by
  refine HasM.bor F B scSp (fun _ _ _ _ _ _ us hl => match us, hl with | [_, _, _], _ => rfl) (fun o ds d ⟨_, _, _, _, _, _, _, _, _, _, _, _, _, _, _, _, _, e, _⟩ => by rw [e]; rfl) fun a o ds Φ ⟨dx, ra, ta, na, h, rows, things, names, n, k, hk, hn, nn, l1, l2, l3, ho, hds, hΦ⟩ f cdv A outer s H g hr => ?_
  subst ho hds
  have nd := scSp.nd
  refine Run.cons (RunS.if_ (EvTP.t (EvTP.not (EvTP.val (EvP.own g inm hr (.cons (.var (i := 1) rfl) .nil) ⟨n, hn, rfl, rfl⟩))) ?_))
  refine Run.nil ?_
  refine Run.cons (RunS.if_ (EvTP.t (EvTP.not (EvTP.val (EvP.own g ik hr (.cons (EvP.stHouse (i := 0) c rfl) (.cons (.var (i := 2) rfl) .nil)) ⟨h, k, hk, rfl, rfl⟩))) ?_))
  refine Run.nil ?_
  have e1 : dlook (names.map fun n => (Dat.str n, Dat.bool true)) (.inr n) = none := dlook_none (g := Sum.inr) (r := fun _ => .bool true) (.inr n) fun y hy e => nn (by cases e; exact hy)
  have e0 : (dlook (names.map fun n => (Dat.str n, Dat.bool true)) (.inr n)).isSome = false := by rw [e1]; rfl
  refine Run.cons (RunS.if_ (EvTP.t (c := false) (e0 ▸ EvTP.stIn (i := 0) g c rfl (.var (i := 1) rfl)) ?_))
  refine Run.nil ?_
  refine Run.cons (RunS.stPut (i := 0) g c rfl .bl (.var (i := 1) rfl) (by rw [List.length_map]; omega) ?_)
  rw [namesPut nn]
  refine Run.cons (RunS.expr (Ev.stAppT (i := 0) c rfl (d := thD (n, k)) (.tup (.cons (.var (i := 1) rfl) (.cons (.var (i := 2) rfl) .nil)) (Nat.le_of_ble_eq_true rfl)) (by rw [List.length_map]; omega) ?_))
  refine Run.one (RunS.expr (Ev.stAppR (i := 0) c rfl (d := (Row.put n k).dat) (.tup (.cons .str (.cons (.var (i := 1) rfl) (.cons (.var (i := 2) rfl) .nil))) (Nat.le_of_ble_eq_true rfl)) (by rw [List.length_map]; omega) ?_))
  refine ⟨stO C dx ra ta na h (rows ++ [.put n k]) (things ++ [(n, k)]) (names ++ [n]), ?_, fun _ => rfl, hΦ⟩
  unfold stO
  rw [List.map_append (f := Row.dat), List.map_append (f := thD)]
  rfl
/-! ### first_of -/
def rSf (C : Addr) : Ow → List Dat → (Dat → Ow → Prop) → Prop := fun o ds Φ => ∃ (dx ra ta na : Addr) (h : Hs) (rows : List Row) (things : List (Str × Str)) (names : List Str) (c : List Str), o = stO C dx ra ta na h rows things names ∧ ds = [cD c] ∧ Φ (oTD (firstOf things c)) (stO C dx ra ta na h rows things names)
def nSf : List Str := ["self", "call", "kind", "thing"]
theorem scSf : FnScope nSf ["self", "call"] (defScope (mst 3)) := ⟨rfl, rfl, rfl, by decide +kernel, rfl, by decide +kernel, by decide +kernel⟩
theorem takeNone {α β : Type} (f : α → Option β) {l : List α} {j : Nat} {x : α} (hx : l[j]? = some x) (h : (l.take j).findSome? f = none) : l.findSome? f = (f x).or ((l.drop (j + 1)).findSome? f) := by
  obtain ⟨hl, e⟩ := List.getElem?_eq_some_iff.mp hx
  have : l = l.take j ++ x :: l.drop (j + 1) := by rw [← e, List.getElem_cons_drop, List.take_append_drop]
  rw [this, List.findSome?_append, h, List.findSome?_cons]
  simp only [Option.none_or]
  have e2 : (l.take j ++ x :: l.drop (j + 1)).drop (j + 1) = l.drop (j + 1) := by rw [← this]
  rw [e2]
  cases f x <;> rfl
theorem okSf (B : Bs K mg) (c : StC K C) (F : StandsM K C "first_of" "Store.first_of" (mst 3)) : HasM P w K mg base 1 C "first_of" (BorSp K (rSf C)) := by
  refine HasM.bor F B scSf (fun _ _ _ _ _ _ us hl => match us, hl with | [_, _], _ => rfl) (fun o ds d ⟨_, _, _, _, _, _, _, _, _, _, e, _⟩ => by rw [e]; rfl) fun a o ds Φ ⟨dx, ra, ta, na, h, rows, things, names, cl, ho, hds, hΦ⟩ f cdv A outer s H g hr => ?_
  subst ho hds
  have nd := scSf.nd
  refine Run.cons (RunS.for_ ((EvItP.ftup (.var (i := 1) rfl)).i ?_) rfl)
  refine ⟨fun j δ' => (∃ x2 x3, δ' = [.ow a (stO C dx ra ta na h rows things names), .im (cD cl), x2, x3] ∧ feetC x3 = []) ∧ (cl.take j).findSome? (fun k => things.find? fun t => decide (t.2 = k)) = none, ⟨⟨_, _, rfl, rfl⟩, rfl⟩, fun j d δ' hj ⟨⟨x2, x3, e, ef⟩, hf⟩ => ?_, fun δ' ⟨⟨x2, x3, e, ef⟩, hf⟩ => ?_⟩
  · subst e
    rw [List.getElem?_map] at hj
    obtain ⟨z, hz, rfl⟩ := Option.map_eq_some_iff.mp hj
    refine ⟨_, AsD.name (i := 2) nd, ?_⟩
    have split := takeNone (fun k => things.find? fun t => decide (t.2 = k)) hz hf
    refine Run.one (RunS.stFor (i := 0) g c rfl (fun i δ' => ∃ x3, δ' = [.ow a (stO C dx ra ta na h rows things names), .im (cD cl), .im (.str z), x3] ∧ feetC x3 = [] ∧ (things.take i).find? (fun t => decide (t.2 = z)) = none) ⟨_, rfl, ef, rfl⟩ (fun j δ' ⟨x3, e, _⟩ => ⟨rows.map Row.dat, names.map fun n => (.str n, .bool true), by subst e; rfl⟩) (fun i d δ' hi ⟨x3, e, ef, hn⟩ => ?_) fun δ' ⟨x3, e, ef, hn⟩ => ?_)
    · subst e
      rw [List.getElem?_map] at hi
      obtain ⟨t, ht, rfl⟩ := Option.map_eq_some_iff.mp hi
      refine ⟨_, AsD.name (i := 3) nd, ?_⟩
      refine Run.one (RunS.if_ (EvTP.t (c := decide (t.2 = z)) (EvTP.cmp (EvP.ix (.var (i := 3) rfl) .int (Ix2.tup atI1)) (.var (i := 2) rfl) Cmp2.eqS) ?_))
      obtain ⟨hl, e⟩ := List.getElem?_eq_some_iff.mp ht
      by_cases hm : t.2 = z
      · rw [if_pos (decide_eq_true hm)]
        refine Run.one (RunS.retP (.var (i := 3) rfl) ⟨_, _, rfl, rfl, fun _ => rfl, ?_⟩)
        have : things.find? (fun t => decide (t.2 = z)) = some t := by
          have e2 : things = things.take i ++ t :: things.drop (i + 1) := by rw [← e, List.getElem_cons_drop, List.take_append_drop]
          rw [e2, List.find?_append, hn, List.find?_cons_of_pos (by simpa using hm)]; rfl
        have e3 : firstOf things cl = some t := by
          unfold firstOf
          rw [split, this]; rfl
        rw [e3] at hΦ
        exact hΦ
      · rw [if_neg (by simpa using hm)]
        refine Run.nil ⟨_, rfl, rfl, ?_⟩
        rw [List.take_add_one, ht, List.find?_append, hn]
        simp [hm]
    · subst e
      refine ⟨⟨_, x3, rfl, ef⟩, ?_⟩
      rw [List.take_add_one, hz, List.findSome?_append, hf]
      rw [List.length_map, List.take_length] at hn
      simp [hn]
  · subst e
    rw [List.length_map, List.take_length] at hf
    refine Run.one (RunS.retP .non ⟨_, _, rfl, rfl, fun _ => rfl, ?_⟩)
    unfold firstOf at hΦ
    rw [hf] at hΦ
    exact hΦ
end
end K94
end

/-! text WT -/
section
set_option Elab.async false
set_option autoImplicit false
set_option linter.all false
set_option maxRecDepth 100000
set_option maxHeartbeats 4000000
/-! the store: take, amounts -/
namespace K94
open PySem PySem.Spec PyProof.Rows L2

def goneT (things : List (Str × Str)) (c : List Str) : List (Str × Str) := match firstOf things c with
  | none => things
  | some t => things.eraseIdx (things.idxOf t)
def nameOf : Option (Str × Str) → Dat
  | none => .none
  | some t => .str t.1
theorem firstOf_mem {things : List (Str × Str)} {c : List Str} {t : Str × Str} (h : firstOf things c = some t) : t ∈ things ∧ t.2 ∈ c := by
  unfold firstOf at h
  obtain ⟨k, hk, e⟩ := List.exists_of_findSome?_eq_some h
  have := List.find?_some e
  exact ⟨List.mem_of_find?_eq_some e, by rw [of_decide_eq_true this]; exact hk⟩
theorem mapErase {α β : Type} (f : α → β) : ∀ (l : List α) (j : Nat), (l.eraseIdx j).map f = (l.map f).eraseIdx j
  | [], _ => rfl
  | _ :: _, 0 => rfl
  | a :: l, j + 1 => congrArg (f a :: ·) (mapErase f l j)
theorem eqvTh (a b : Str × Str) : PyData.eqv (thD a).py (thD b).py = decide (a = b) := by
  show ((a.1 == b.1) && ((a.2 == b.2) && true)) = _
  obtain ⟨a1, a2⟩ := a
  obtain ⟨b1, b2⟩ := b
  by_cases h1 : a1 = b1 <;> by_cases h2 : a2 = b2 <;> simp [h1, h2]
theorem plainTh : ∀ things : List (Str × Str), PyData.plainAll (pyAll (things.map thD)) = true
  | [] => rfl
  | t :: l => by
    show ((thD t).py.plain && PyData.plainAll (pyAll (l.map thD))) = true
    rw [plainTh l]; rfl
def cntA (things : List (Str × Str)) : Str → Int := things.foldl (fun am t => upA am t.2 (am t.2 + 1)) fun _ => 0
section
variable {P : Program} {w : World} {K : PySem.W.Frag} {mg : Str → Option Value} {base : Heap} {k : Nat} {C : Addr}
/-! ### amounts -/
def rSa (C : Addr) : Ow → List Dat → (Dat → Ow → Prop) → Prop := fun o ds Φ => ∃ (dx ra ta na : Addr) (h : Hs) (rows : List Row) (things : List (Str × Str)) (names : List Str), HouseOk h ∧ (∀ t ∈ things, t.2 ∈ h.ks) ∧ o = stO C dx ra ta na h rows things names ∧ ds = [] ∧ Φ (mD (sS h.ks) (cntA things)) (stO C dx ra ta na h rows things names)
def nSa : List Str := ["self", "found", "kind", "name"]
theorem scSa : FnScope nSa ["self"] (defScope (mst 7)) := ⟨rfl, rfl, rfl, by decide +kernel, rfl, by decide +kernel, by decide +kernel⟩
theorem okSa (B : Bs K mg) (c : StC K C) (F : StandsM K C "amounts" "Store.amounts" (mst 7)) : HasM P w K mg base 1 C "amounts" (BorSp K (rSa C)) := by
  refine HasM.bor F B scSa (fun _ _ _ _ _ _ us hl => match us, hl with | [_], _ => rfl) (fun o ds d ⟨_, _, _, _, _, _, _, _, _, _, _, e, _⟩ => by rw [e]; rfl) fun a o ds Φ ⟨dx, ra, ta, na, h, rows, things, names, ok, ht, ho, hds, hΦ⟩ f cdv A outer s H g hr => ?_
  subst ho hds
  have nd := scSa.nd
  have ns : (sS h.ks).Nodup := (sS_perm _).nodup_iff.mpr ok.nd
  have ls : (sS h.ks).length ≤ 6 := by rw [(sS_perm _).length_eq]; exact ok.k6
  have hs := srtS h.ks
  have inS : ∀ k, k ∈ sS h.ks ↔ k ∈ h.ks := fun k => (sS_perm _).mem_iff
  have e0 : keptK (fun _ => true) keyOf (fun _ => .int 0) (dS (sS h.ks)) = (sS h.ks).map fun k => (.str k, .int 0) := keptK_S ns
  refine Run.cons (RunS.setDictK (i := 1) (own := [("kind", 2)]) (ds := dS (sS h.ks)) (b := fun _ => true) (kf := keyOf) (kd := id) (r := fun d => .int 0) (f := fun d => [.ow a (stO C dx ra ta na h rows things names), .no, .im d, .no]) rfl nd (blkOk_by (N := nSa) (sc := defScope (mst 7)) (by decide +kernel))
    (EvItP.list (EvP.callB (fid := "sorted") (.cons (EvP.ix (EvP.stHouse (i := 0) c rfl) .int (Ix2.tup atI0)) .nil) (hs ▸ CallD.sortedT g (by have := ok.k6; omega)) (B.free _ (by decide)))) (fun d hd s H C cl fp => AsDV.name (i := 2) nd) (fun d hd s H C cl fp => ?_) (fun d hd _ => ?_) (fun d hd _ s H C cl fp => .int) (len1000 (by omega) _) fun q => ?_)
  · rfl
  · obtain ⟨o, _, rfl⟩ := List.mem_map.mp hd
    exact ⟨.str o, fun s H C cl fp => .var (i := 2) rfl⟩
  · rw [e0]
    refine Run.cons (RunS.stFor (i := 0) g c rfl (fun j δ' => ∃ x2 x3, δ' = [.ow a (stO C dx ra ta na h rows things names), .ow q (.d (mD (sS h.ks) (cntA (things.take j)))), x2, x3]) ⟨_, _, rfl⟩ (fun j δ' ⟨x2, x3, e⟩ => ⟨rows.map Row.dat, names.map fun n => (.str n, .bool true), by subst e; rfl⟩) (fun i d δ' hi ⟨x2, x3, e⟩ => ?_) fun δ' ⟨x2, x3, e⟩ => ?_)
    · subst e
      rw [List.getElem?_map] at hi
      obtain ⟨t, ht', rfl⟩ := Option.map_eq_some_iff.mp hi
      have next : cntA (things.take (i + 1)) = _ := foldTake (fun am (t : Str × Str) => upA am t.2 (am t.2 + 1)) (fun _ => 0) ht'
      have hk := (inS _).mpr (ht t (List.mem_of_getElem? ht'))
      refine ⟨_, AsD.pair (i := 3) (j := 2) (d1 := .str t.1) (d2 := .str t.2) rfl nd, ?_⟩
      refine Run.one (RunS.augK (i := 1) (q := q) (dk := .str t.2) (kk := .inr t.2) (n := cntA (things.take i) t.2) (j := 1) (op := .Add) (f := fun i j => i + j) g rfl (.var (i := 2) rfl) (.str _) (dlook_mD hk) .int (by rw [List.length_map]; omega) in_add ?_)
      refine ⟨.im (.str t.2), .im (.str t.1), ?_⟩
      rw [dputK_mD hk, next]
      rfl
    · subst e
      rw [List.length_map, List.take_length]
      exact Run.one (RunS.ret (Ev.giveVar (i := 1) rfl ⟨_, _, rfl, rfl, fun _ => rfl, hΦ⟩))
/-! ### take -/
def rSk (C : Addr) : Ow → List Dat → (Dat → Ow → Prop) → Prop := fun o ds Φ => ∃ (dx ra ta na : Addr) (h : Hs) (rows : List Row) (things : List (Str × Str)) (names : List Str) (c : List Str), HouseOk h ∧ c ∈ h.cs ∧ rows.length ≤ 900 ∧ things.length ≤ 900 ∧ o = stO C dx ra ta na h rows things names ∧ ds = [cD c] ∧
  Φ (nameOf (firstOf things c)) (stO C dx ra ta na h (rows ++ [.call c]) (goneT things c) names)
def nSk : List Str := ["self", "call", "thing"]
theorem scSk : FnScope nSk ["self", "call"] (defScope (mst 4)) := ⟨rfl, rfl, rfl, by decide +kernel, rfl, by decide +kernel, by decide +kernel⟩
theorem okSk (B : Bs K mg) (c : StC K C) (F : StandsM K C "take" "Store.take" (mst 4)) (ic : Has P w K mg base 4 "is_call" (PurSp K rIs2)) (fo : HasM P w K mg base 1 C "first_of" (BorSp K (rSf C))) : HasM P w K mg base 5 C "take" (BorSp K (rSk C)) := by
  refine HasM.bor F B scSk (fun _ _ _ _ _ _ us hl => match us, hl with | [_, _], _ => rfl) (fun o ds d ⟨_, _, _, _, _, _, _, _, _, _, _, _, _, _, e, _⟩ => by rw [e]; rfl) fun a o ds Φ ⟨dx, ra, ta, na, h, rows, things, names, cl, ok, hc, l1, l2, ho, hds, hΦ⟩ f cdv A outer s H g hr => ?_
  subst ho hds
  have nd := scSk.nd
  refine Run.cons (RunS.if_ (EvTP.t (EvTP.not (EvTP.val (EvP.own g ic hr (.cons (EvP.stHouse (i := 0) c rfl) (.cons (.var (i := 1) rfl) .nil)) ⟨h, cl, ok, hc, rfl, rfl⟩))) ?_))
  refine Run.nil ?_
  have er : rows.map Row.dat ++ [(Row.call cl).dat] = (rows ++ [Row.call cl]).map Row.dat := (List.map_append (f := Row.dat) (l₁ := rows) (l₂ := [Row.call cl])).symm
  refine Run.cons (RunS.expr (Ev.stAppR (i := 0) c rfl (d := (Row.call cl).dat) (.tup (.cons .str (.cons (.var (i := 1) rfl) .nil)) (Nat.le_of_ble_eq_true rfl)) (by rw [List.length_map]; omega) ?_))
  rw [er]
  refine Run.cons (RunS.set (i := 2) (EvI.ev (Ψ := fun d δ' => d = oTD (firstOf things cl) ∧ δ' = [.ow a (stO C dx ra ta na h (rows ++ [.call cl]) things names), .im (cD cl), .no]) (EvI.meth (i := 0) (Ρ := fun d o' => d = oTD (firstOf things cl) ∧ o' = stO C dx ra ta na h (rows ++ [.call cl]) things names) g c fo (hr.mono (by decide)) rfl (.cons (.var (i := 1) rfl) .nil) ⟨dx, ra, ta, na, h, rows ++ [.call cl], things, names, cl, rfl, rfl, rfl, rfl⟩ fun d o' ⟨e1, e2⟩ _ => ⟨e1, by rw [e2]; rfl⟩) fun d δ' ⟨e1, e2⟩ => ?_) nd)
  subst e1 e2
  unfold goneT at hΦ
  cases ht : firstOf things cl with
  | none =>
    rw [ht] at hΦ
    refine Run.cons (RunS.if_ (EvTP.t (c := true) (EvTP.cmp (.var (i := 2) rfl) .non (Cmp2.isNone rfl)) ?_))
    exact Run.one (RunS.retP .non ⟨_, _, rfl, rfl, fun _ => rfl, hΦ⟩)
  | some t =>
    rw [ht] at hΦ
    have hm := (firstOf_mem ht).1
    have lt : things.idxOf t < things.length := List.idxOf_lt_length_iff.mpr hm
    refine Run.cons (RunS.if_ (EvTP.t (c := false) (EvTP.cmp (.var (i := 2) rfl) .non (Cmp2.isNone rfl)) ?_))
    refine Run.nil ?_
    refine Run.cons (RunS.expr (Ev.stRem (i := 0) (j := things.idxOf t) g c rfl (.var (i := 2) rfl) (by rw [List.length_map]; omega) (plainTh things) rfl ?_ ?_ ?_))
    · exact Nat.le_of_ble_eq_true rfl
    · show List.findIdx? _ _ = _
      rw [pyAll_map, List.map_map, List.findIdx?_map]
      have e : ((fun y => PyData.eqv y (oTD (some t)).py) ∘ (Dat.py ∘ thD)) = fun x => x == t := funext fun x => by
        show PyData.eqv (thD x).py (thD t).py = _
        rw [eqvTh]
        by_cases hx : x = t <;> simp [hx]
      rw [e]
      exact List.findIdx?_eq_some_of_exists ⟨t, hm, by simp⟩
    · refine Run.one (RunS.retP (EvP.ix (.var (i := 2) rfl) .int (Ix2.tup atI0)) ⟨_, stO C dx ra ta na h (rows ++ [Row.call cl]) (things.eraseIdx (things.idxOf t)) names, rfl, ?_, fun _ => rfl, hΦ⟩)
      unfold stO
      rw [mapErase]
      rfl
end
end K94
end

/-! text WU -/
section
set_option Elab.async false
set_option autoImplicit false
set_option linter.all false
set_option maxRecDepth 100000
set_option maxHeartbeats 4000000
/-! the store played -/
namespace K94
open PySem PySem.Spec PyProof.Rows L2

structure Kp where
  rows : List Row
  things : List (Str × Str)
  names : List Str
def kO (C dx ra ta na : Addr) (h : Hs) (S : Kp) : Ow := stO C dx ra ta na h S.rows S.things S.names
def stRow (S : Kp) : Row → Kp
  | .put n k => ⟨S.rows ++ [.put n k], S.things ++ [(n, k)], S.names ++ [n]⟩
  | .call c => ⟨S.rows ++ [.call c], goneT S.things c, S.names⟩
def toldD (S : Kp) : Row → Dat
  | .put _ _ => .none
  | .call c => nameOf (firstOf S.things c)
def RowOk (h : Hs) : Row → Prop
  | .put n k => k ∈ h.ks ∧ NameOk n
  | .call c => c ∈ h.cs
def Row.name : Row → Option Str
  | .put n _ => some n
  | .call _ => none
def RowIn (h : Hs) (S : Kp) (r : Row) : Prop := RowOk h r ∧ ∀ n, r.name = some n → n ∉ S.names
def k0 : Kp := ⟨[], [], []⟩
def kAt (l : List Row) : Kp := l.foldl stRow k0
def LogOk (h : Hs) (l : List Row) : Prop := (∀ r ∈ l, RowOk h r) ∧ (l.filterMap Row.name).Nodup
def Room9 (S : Kp) : Prop := S.rows.length ≤ 900 ∧ S.things.length ≤ 900 ∧ S.names.length ≤ 900
theorem goneT_len (things : List (Str × Str)) (c : List Str) : (goneT things c).length ≤ things.length := by
  unfold goneT
  split
  · exact Nat.le_refl _
  · rw [List.length_eraseIdx]; split <;> omega
theorem kAt_snoc (l : List Row) (r : Row) : kAt (l ++ [r]) = stRow (kAt l) r := by
  unfold kAt
  rw [List.foldl_append]; rfl
theorem kAt_facts : ∀ (l : List Row) (S : Kp), (l.foldl stRow S).rows = S.rows ++ l ∧ (l.foldl stRow S).names = S.names ++ l.filterMap Row.name ∧ (l.foldl stRow S).things.length ≤ S.things.length + l.length
  | [], S => ⟨by simp, by simp, Nat.le_refl _⟩
  | r :: l, S => by
    obtain ⟨h1, h2, h3⟩ := kAt_facts l (stRow S r)
    rw [List.foldl_cons, h1, h2]
    cases r with
    | put n k =>
      refine ⟨by simp [stRow], by simp [stRow, Row.name], ?_⟩
      have : (stRow S (.put n k)).things.length = S.things.length + 1 := by simp [stRow]
      rw [List.length_cons]; omega
    | call c =>
      refine ⟨by simp [stRow], by rw [List.filterMap_cons_none (f := Row.name) rfl]; rfl, ?_⟩
      have := goneT_len S.things c
      have : (stRow S (.call c)).things.length = (goneT S.things c).length := rfl
      rw [List.length_cons]; omega
theorem LogOk.room {h : Hs} {l : List Row} (hl : l.length ≤ 900) (j : Nat) : Room9 (kAt (l.take j)) := by
  obtain ⟨h1, h2, h3⟩ := kAt_facts (l.take j) k0
  have lt := takeLen hl j
  have := List.length_filterMap_le Row.name (l.take j)
  refine ⟨?_, ?_, ?_⟩
  · unfold kAt; rw [h1]; simpa [k0] using lt
  · have : (kAt (l.take j)).things.length ≤ _ := h3
    simp only [k0, List.length_nil] at this
    omega
  · unfold kAt; rw [h2]; simp only [k0, List.nil_append]; omega
theorem LogOk.at {h : Hs} {l : List Row} (o : LogOk h l) {j : Nat} {r : Row} (hr : l[j]? = some r) : RowIn h (kAt (l.take j)) r := by
  refine ⟨o.1 r (List.mem_of_getElem? hr), fun n hn hm => ?_⟩
  obtain ⟨_, h2, _⟩ := kAt_facts (l.take j) k0
  unfold kAt at hm
  rw [h2] at hm
  simp only [k0, List.nil_append] at hm
  obtain ⟨hl, e⟩ := List.getElem?_eq_some_iff.mp hr
  have sp : l = l.take j ++ r :: l.drop (j + 1) := by rw [← e, List.getElem_cons_drop, List.take_append_drop]
  have nd := o.2
  rw [sp, List.filterMap_append, List.filterMap_cons, hn] at nd
  exact (List.nodup_append.mp nd).2.2 n hm n List.mem_cons_self rfl
section
variable {P : Program} {w : World} {K : PySem.W.Frag} {mg : Str → Option Value} {base : Heap} {k : Nat} {C : Addr}
/-! ### do_row -/
def rDr (C : Addr) : Ow → List Dat → (Dat → Ow → Prop) → Prop := fun o ds Φ => ∃ (dx ra ta na : Addr) (h : Hs) (S : Kp) (r : Row), HouseOk h ∧ RowIn h S r ∧ Room9 S ∧ o = kO C dx ra ta na h S ∧ ds = [r.dat] ∧ Φ (toldD S r) (kO C dx ra ta na h (stRow S r))
def nDr : List Str := ["store", "row"]
theorem scDr : FnScope nDr ["store", "row"] (defScope (top 58)) := ⟨rfl, rfl, rfl, by decide +kernel, rfl, by decide +kernel, by decide +kernel⟩
theorem okDr (B : Bs K mg) (c : StC K C) (F : Stands K mg "do_row" (top 58)) (sp : HasM P w K mg base 2 C "put" (BorSp K (rSp C))) (sk : HasM P w K mg base 5 C "take" (BorSp K (rSk C))) : Has P w K mg base 6 "do_row" (BorSp K (rDr C)) := by
  refine Has.bor F B scDr (fun _ _ _ _ _ _ us hl => match us, hl with | [_, _], _ => rfl) (fun o ds d ⟨_, _, _, _, _, _, _, _, _, _, _, e, _⟩ => by rw [e]; rfl) fun a o ds Φ ⟨dx, ra, ta, na, h, S, r, ok, hi, rm, ho, hds, hΦ⟩ f cdv A outer s H g hr => ?_
  subst ho hds
  have nd := scDr.nd
  cases r with
  | put n k =>
    refine Run.cons (RunS.if_ (EvTP.t (c := decide (("put" : Str) = "put")) (EvTP.cmp (EvP.ix (.var (i := 1) rfl) .int (Ix2.tup atI0)) .str Cmp2.eqS) ?_))
    rw [if_pos (by decide)]
    refine Run.one (RunS.expr (EvI.ev (Ψ := fun d δ' => δ' = [.ow a (kO C dx ra ta na h (stRow S (.put n k))), .im (Row.put n k).dat]) (EvI.meth (i := 0) (Ρ := fun d o' => o' = kO C dx ra ta na h (stRow S (.put n k))) g c sp (hr.mono (by decide)) rfl (.cons (EvP.ix (.var (i := 1) rfl) .int (Ix2.tup atI1)) (.cons (EvP.ix (.var (i := 1) rfl) .int (Ix2.tup atI2)) .nil)) ⟨dx, ra, ta, na, h, S.rows, S.things, S.names, n, k, hi.1.1, hi.1.2, hi.2 n rfl, rm.1, rm.2.1, rm.2.2, rfl, rfl, rfl⟩ fun d o' e2 _ => by rw [e2]; rfl) fun d δ' e2 => ?_))
    subst e2
    exact Run.one (RunS.retP .non ⟨_, _, rfl, rfl, fun _ => rfl, hΦ⟩)
  | call cl =>
    refine Run.cons (RunS.if_ (EvTP.t (c := decide (("call" : Str) = "put")) (EvTP.cmp (EvP.ix (.var (i := 1) rfl) .int (Ix2.tup atI0)) .str Cmp2.eqS) ?_))
    rw [if_neg (by decide)]
    refine Run.one (RunS.if_ (EvTP.t (c := decide (("call" : Str) = "drop")) (EvTP.cmp (EvP.ix (.var (i := 1) rfl) .int (Ix2.tup atI0)) .str Cmp2.eqS) ?_))
    rw [if_neg (by decide)]
    exact Run.one (RunS.retI (EvI.meth (i := 0) (Ρ := fun d o' => d = toldD S (.call cl) ∧ o' = kO C dx ra ta na h (stRow S (.call cl))) g c sk hr rfl (.cons (EvP.ix (.var (i := 1) rfl) .int (Ix2.tup atI1)) .nil) ⟨dx, ra, ta, na, h, S.rows, S.things, S.names, cl, ok, hi.1, rm.1, rm.2.1, rfl, rfl, rfl, rfl⟩ fun d o' ⟨e1, e2⟩ sf => ⟨d, o', rfl, rfl, sf, by rw [e1, e2]; exact hΦ⟩))
/-! ### store_behind -/
def rSb (C : Addr) : List Dat → (Addr → Ow → Prop) → Prop := fun ds Φ => ∃ (h : Hs) (l : List Row), HouseOk h ∧ LogOk h l ∧ l.length ≤ 900 ∧ ds = [h.dat, lgD l] ∧ ∀ a dx ra ta na, Φ a (kO C dx ra ta na h (kAt l))
def nSb : List Str := ["house", "rows", "store", "row"]
theorem scSb : FnScope nSb ["house", "rows"] (defScope (top 59)) := ⟨rfl, rfl, rfl, by decide +kernel, rfl, by decide +kernel, by decide +kernel⟩
/-- the class, and how it is made -/
structure Cl (P : Program) (w : World) (K : PySem.W.Frag) (mg : Str → Option Value) (base : Heap) (C : Addr) : Prop where
  c : StC K C
  at_ : mg "Store" = some (.ref C)
  made : ∃ f fd, Mk K C f ∧ FnG P w K mg base 4 f fd ["self", "house"] (InitSp K C HouseD) ∧ Binds K fd ["self", "house"] []
theorem okSb (B : Bs K mg) (c : Cl P w K mg base C) (F : Stands K mg "store_behind" (top 59)) (dr : Has P w K mg base 6 "do_row" (BorSp K (rDr C))) : Has P w K mg base 7 "store_behind" (NewSp K (rSb C)) := by
  refine Has.new F B scSb (fun _ _ _ _ _ _ us hl => match us, hl with | [_, _], _ => rfl) (fun ds d ⟨_, _, _, _, _, e, _⟩ => by rw [e]; rfl) fun ds Φ ⟨h, l, ok, lo, hl, hds, hΦ⟩ f cdv A outer s H g hr => ?_
  subst hds
  have nd := scSb.nd
  obtain ⟨f1, fd1, M, FI, hb⟩ := c.made
  refine Run.cons (RunS.set (i := 2) (Ev.make g M FI hb (hr.mono (by decide)) c.at_ (.var (i := 0) rfl) ⟨h, ok, rfl⟩ fun a dx ra ta na => ?_) nd)
  refine Run.cons (RunS.for_ ((EvItP.tup (.var (i := 1) rfl)).i ?_) rfl)
  refine ⟨fun j δ' => ∃ x, δ' = [.im h.dat, .im (lgD l), .ow a (kO C dx ra ta na h (kAt (l.take j))), x], ⟨_, rfl⟩, fun j d δ' hj ⟨x, e⟩ => ?_, fun δ' ⟨x, e⟩ => ?_⟩
  · subst e
    rw [List.getElem?_map] at hj
    obtain ⟨r, hr2, rfl⟩ := Option.map_eq_some_iff.mp hj
    have next : kAt (l.take (j + 1)) = _ := foldTake stRow k0 hr2
    refine ⟨_, AsD.name (i := 3) nd, ?_⟩
    refine Run.one (RunS.expr (EvI.ev (EvI.ownB (i := 2) (q := a) g dr hr ⟨_, rfl⟩ (EvAP.ea (.cons (.var (i := 3) rfl) .nil) ⟨_, fun d o' => o' = kO C dx ra ta na h (stRow (kAt (l.take j)) r), rfl, ⟨dx, ra, ta, na, h, kAt (l.take j), r, ok, lo.at hr2, LogOk.room (h := h) hl j, rfl, rfl, rfl⟩, fun d o' e _ => ?_⟩)) fun d δ' hx => hx))
    refine ⟨.im r.dat, ?_⟩
    rw [next, e]; rfl
  · subst e
    rw [List.length_map, List.take_length]
    exact Run.one (RunS.ret (Ev.moveVar (i := 2) rfl ⟨_, _, rfl, hΦ a dx ra ta na⟩))
end
end K94
end

/-! text WV -/
section
set_option Elab.async false
set_option autoImplicit false
set_option linter.all false
set_option maxRecDepth 100000
set_option maxHeartbeats 4000000
/-! what the store told -/
namespace K94
open PySem PySem.Spec PyProof.Rows L2

def toldOne (l : List Row) (i : Nat) : Option (Nat × Option (Str × Str)) := match l[i]? with
  | some (.call c) => some (i, firstOf (kAt (l.take i)).things c)
  | _ => none
def toldN (l : List Row) (j : Nat) : List (Nat × Option (Str × Str)) := (List.range j).filterMap (toldOne l)
theorem toldN_succ (l : List Row) (j : Nat) : toldN l (j + 1) = toldN l j ++ (toldOne l j).toList := by
  unfold toldN
  rw [List.range_succ, List.filterMap_append]
  refine congrArg _ ?_
  cases h : toldOne l j with
  | none => rw [List.filterMap_cons_none h]; rfl
  | some x => rw [List.filterMap_cons_some h]; rfl
theorem toldN_lt {l : List Row} {j : Nat} {p : Nat × Option (Str × Str)} (h : p ∈ toldN l j) : p.1 < j ∧ toldOne l p.1 = some p := by
  obtain ⟨i, hi, e⟩ := List.mem_filterMap.mp h
  have : p.1 = i := by
    unfold toldOne at e
    split at e
    · cases e; rfl
    · cases e
  rw [this]
  exact ⟨List.mem_range.mp hi, e⟩
theorem toldN_len (l : List Row) (j : Nat) : (toldN l j).length ≤ j := by
  have := List.length_filterMap_le (toldOne l) (List.range j)
  rw [List.length_range] at this
  exact this
def toldKV (l : List Row) (j : Nat) : List (Dat × Dat) := (toldN l j).map fun p => (.int (p.1 : Nat), nameOf p.2)
section
variable {P : Program} {w : World} {K : PySem.W.Frag} {mg : Str → Option Value} {base : Heap} {k : Nat} {C : Addr}
/-! ### told_by -/
def rTo : List Dat → Dat → Prop := fun ds d => ∃ (h : Hs) (l : List Row), HouseOk h ∧ LogOk h l ∧ l.length ≤ 900 ∧ ds = [h.dat, lgD l] ∧ d = .dict (toldKV l l.length)
def nTo : List Str := ["house", "log", "store", "found", "index", "row", "name"]
theorem scTo : FnScope nTo ["house", "log"] (defScope (top 60)) := ⟨rfl, rfl, rfl, by decide +kernel, rfl, by decide +kernel, by decide +kernel⟩
theorem okTo (B : Bs K mg) (c : Cl P w K mg base C) (F : Stands K mg "told_by" (top 60)) (dr : Has P w K mg base 6 "do_row" (BorSp K (rDr C))) : Has P w K mg base 7 "told_by" (PurSp K rTo) := by
  refine Has.pur F B scTo (fun _ _ _ _ _ _ us hl => match us, hl with | [_, _], _ => rfl) (fun ds d ⟨_, _, _, _, _, e, _⟩ => by rw [e]; rfl) fun ds d ⟨h, l, ok, lo, hl, hds, hd⟩ f cdv A outer s H g hr => ?_
  subst hds hd
  have nd := scTo.nd
  obtain ⟨f1, fd1, M, FI, hb⟩ := c.made
  refine Run.cons (RunS.par2 (i := 2) (j := 3) (Ev.make g M FI hb (hr.mono (by decide)) c.at_ (.var (i := 0) rfl) ⟨h, ok, rfl⟩ fun a dx ra ta na => Ev.newK fun q => ?_) rfl nd)
  refine Run.cons (RunS.for_ ((EvItP.enumT (.var (i := 1) rfl) (B.free _ (by decide))).i ?_) rfl)
  refine ⟨fun j δ' => ∃ x4 x5 x6, δ' = [.im h.dat, .im (lgD l), .ow a (kO C dx ra ta na h (kAt (l.take j))), .ow q (.d (.dict (toldKV l j))), x4, x5, x6], ⟨_, _, _, rfl⟩, fun j d δ' hj ⟨x4, x5, x6, e⟩ => ?_, fun δ' ⟨x4, x5, x6, e⟩ => ?_⟩
  · subst e
    have hj1 : j < l.length := by
      have := (List.getElem?_eq_some_iff.mp hj).1
      rwa [enumD_length, List.length_map] at this
    have hr2 : l[j]? = some l[j] := List.getElem?_eq_getElem hj1
    generalize l[j] = r at hr2
    have hr3 : (l.map Row.dat)[j]? = some r.dat := by rw [List.getElem?_map, hr2]; rfl
    have ed := enumD_get hr3
    rw [ed] at hj
    cases hj
    have next : kAt (l.take (j + 1)) = _ := foldTake stRow k0 hr2
    have nextT := toldN_succ l j
    refine ⟨_, AsD.pair (i := 4) (j := 5) (d1 := .int (j : Nat)) (d2 := r.dat) rfl nd, ?_⟩
    refine Run.cons (RunS.set (i := 6) (EvI.ev (Ψ := fun d δ' => d = toldD (kAt (l.take j)) r ∧ δ' = [.im h.dat, .im (lgD l), .ow a (kO C dx ra ta na h (stRow (kAt (l.take j)) r)), .ow q (.d (.dict (toldKV l j))), .im (.int (j : Nat)), .im r.dat, x6]) (EvI.ownB (i := 2) (q := a) g dr hr ⟨_, rfl⟩ (EvAP.ea (.cons (.var (i := 5) rfl) .nil) ⟨_, fun d o' => d = toldD (kAt (l.take j)) r ∧ o' = kO C dx ra ta na h (stRow (kAt (l.take j)) r), rfl, ⟨dx, ra, ta, na, h, kAt (l.take j), r, ok, lo.at hr2, LogOk.room (h := h) hl j, rfl, rfl, rfl, rfl⟩, fun d o' ⟨e1, e2⟩ _ => ⟨e1, by rw [e2]; rfl⟩⟩)) fun d δ' ⟨e1, e2⟩ => ?_) nd)
    subst e1 e2
    cases r with
    | put n z =>
      refine Run.one (RunS.if_ (EvTP.t (c := decide (("put" : Str) = "call")) (EvTP.cmp (EvP.ix (.var (i := 5) rfl) .int (Ix2.tup atI0)) .str Cmp2.eqS) ?_))
      rw [if_neg (by decide)]
      have e0 : toldOne l j = none := by unfold toldOne; rw [hr2]
      rw [e0] at nextT
      refine Run.nil ⟨.im (.int (j : Nat)), .im (Row.put n z).dat, .im (toldD (kAt (l.take j)) (.put n z)), ?_⟩
      unfold toldKV
      rw [next, nextT, Option.toList_none, List.append_nil]
      rfl
    | call cl =>
      refine Run.one (RunS.if_ (EvTP.t (c := decide (("call" : Str) = "call")) (EvTP.cmp (EvP.ix (.var (i := 5) rfl) .int (Ix2.tup atI0)) .str Cmp2.eqS) ?_))
      rw [if_pos (by decide)]
      have e0 : toldOne l j = some (j, firstOf (kAt (l.take j)).things cl) := by unfold toldOne; rw [hr2]
      rw [e0] at nextT
      have len := toldN_len l j
      refine Run.one (RunS.putK (i := 3) (q := q) (EvP.i (.var (i := 6) rfl) ⟨_, .int (j : Nat), .inl (j : Nat), rfl, .var (i := 4) rfl, .int _, ?_, ?_⟩) g)
      · unfold toldKV; rw [List.length_map]; omega
      · refine ⟨.im (.int (j : Nat)), .im (Row.call cl).dat, .im (toldD (kAt (l.take j)) (.call cl)), ?_⟩
        have e1 : dputK (toldKV l j) (.inl (j : Nat)) (toldD (kAt (l.take j)) (.call cl)) = toldKV l (j + 1) := by
          rw [dputK_new fun p hp => ?_]
          · unfold toldKV
            rw [nextT, List.map_append]; rfl
          · obtain ⟨x, hx, rfl⟩ := List.mem_map.mp hp
            refine ⟨.inl (x.1 : Nat), rfl, fun e => ?_⟩
            have := (toldN_lt hx).1
            have e2 : ((x.1 : Nat) : Int) = (j : Nat) := Sum.inl.inj e
            omega
        rw [next, ← e1]
        rfl
  · subst e
    rw [enumD_length, List.length_map]
    exact Run.one (RunS.ret (Ev.giveVar (i := 3) rfl rfl))
end
end K94
end

/-! text WW -/
section
set_option Elab.async false
set_option autoImplicit false
set_option linter.all false
set_option maxRecDepth 100000
set_option maxHeartbeats 4000000
/-! what was taken; amounts at a moment; served -/
namespace K94
open PySem PySem.Spec PyProof.Rows L2

theorem isK_iff {d : Dat} {k : L2.Key} : isK d k = true ↔ d = kD k := by
  constructor
  · intro h
    unfold isK at h
    split at h
    · exact congrArg Dat.int (of_decide_eq_true h)
    · exact congrArg Dat.str (of_decide_eq_true h)
    · cases h
  · intro h
    rw [h, isK_kD]; simp
theorem dlook_app {l m : List (Dat × Dat)} {k : L2.Key} : dlook (l ++ m) k = (dlook l k).or (dlook m k) := by
  induction l with
  | nil => rfl
  | cons p l ih =>
    show (if isK p.1 k = true then some p.2 else dlook (l ++ m) k) = ((if isK p.1 k = true then some p.2 else dlook l k)).or (dlook m k)
    split
    · rfl
    · exact ih
theorem dlook_any {l : List (Dat × Dat)} {k : L2.Key} (h : (l.any fun p => isK p.1 k) = false) : dlook l k = none := by
  induction l with
  | nil => rfl
  | cons p l ih =>
    rw [List.any_cons, Bool.or_eq_false_iff] at h
    show (if isK p.1 k = true then some p.2 else dlook l k) = none
    rw [h.1, if_neg (by simp)]
    exact ih h.2
theorem dlook_map_put {l : List (Dat × Dat)} {k k' : L2.Key} {d : Dat} : dlook (l.map fun p => if isK p.1 k = true then (p.1, d) else p) k' = if k = k' then (dlook l k').map (fun _ => d) else dlook l k' := by
  induction l with
  | nil => split <;> rfl
  | cons p l ih =>
    rw [List.map_cons]
    show (if isK (if isK p.1 k = true then (p.1, d) else p).1 k' = true then some (if isK p.1 k = true then (p.1, d) else p).2 else dlook (l.map fun p => if isK p.1 k = true then (p.1, d) else p) k') = if k = k' then (if isK p.1 k' = true then some p.2 else dlook l k').map (fun _ => d) else (if isK p.1 k' = true then some p.2 else dlook l k')
    have e1 : (if isK p.1 k = true then (p.1, d) else p).1 = p.1 := by split <;> rfl
    rw [e1, ih]
    by_cases h : isK p.1 k' = true
    · rw [if_pos h]
      by_cases hk : k = k'
      · subst hk
        rw [if_pos h, if_pos rfl, if_pos h]; rfl
      · have : ¬ isK p.1 k = true := fun z => hk (by
          have e := (isK_iff.mp z).symm.trans (isK_iff.mp h)
          cases k <;> cases k' <;> cases e <;> rfl)
        rw [if_neg this, if_neg hk, if_pos h]
    · rw [if_neg h, if_neg h]
theorem dlook_put {l : List (Dat × Dat)} {k k' : L2.Key} {d : Dat} : dlook (dputK l k d) k' = if k = k' then some d else dlook l k' := by
  unfold dputK
  cases h : l.any fun p => isK p.1 k with
  | true =>
    rw [if_pos rfl, dlook_map_put]
    by_cases hk : k = k'
    · subst hk
      rw [if_pos rfl, if_pos rfl]
      cases hd : dlook l k with
      | some _ => rfl
      | none =>
        exfalso
        obtain ⟨p, hp, e⟩ := List.any_eq_true.mp h
        clear h
        induction l with
        | nil => cases hp
        | cons q l ih =>
          change (if isK q.1 k = true then some q.2 else dlook l k) = none at hd
          split at hd
          · cases hd
          · rcases List.mem_cons.mp hp with rfl | z
            · rename_i hn; exact hn e
            · exact ih hd z
    · rw [if_neg hk, if_neg hk]
  | false =>
    rw [if_neg (by simp), dlook_app]
    by_cases hk : k = k'
    · subst hk
      rw [if_pos rfl, dlook_any h]
      show (none : Option Dat).or (if isK (kD k) k = true then some d else none) = some d
      rw [isK_kD]; simp
    · rw [if_neg hk]
      have : dlook [(kD k, d)] k' = none := by
        show (if isK (kD k) k' = true then some d else none) = none
        rw [isK_kD]; simp [hk]
      rw [this, Option.or_none]
theorem atoms_put {l : List (Dat × Dat)} (h : Atoms l) (k : L2.Key) (d : Dat) : Atoms (dputK l k d) := by
  unfold dputK
  split
  · intro p hp
    obtain ⟨q, hq, rfl⟩ := List.mem_map.mp hp
    split
    · exact h q hq
    · exact h q hq
  · intro p hp
    rcases List.mem_append.mp hp with z | z
    · exact h p z
    · rw [List.mem_singleton.mp z]; exact ⟨k, rfl⟩
theorem atoms_kept {α : Type} (kf : α → L2.Key) (r : α → Dat) : ∀ (l : List α) (acc : List (Dat × Dat)), Atoms acc → Atoms (l.foldl (fun a x => dputK a (kf x) (r x)) acc)
  | [], _, h => h
  | x :: l, acc, h => atoms_kept kf r l _ (atoms_put h _ _)
theorem kept_some {α : Type} (kf : α → L2.Key) (r : α → Dat) (k : L2.Key) : ∀ (l : List α) (acc : List (Dat × Dat)), ((∃ x ∈ l, kf x = k) ∨ (dlook acc k).isSome = true) → (dlook (l.foldl (fun a x => dputK a (kf x) (r x)) acc) k).isSome = true
  | [], _, h => by
    rcases h with ⟨x, hx, _⟩ | h
    · cases hx
    · exact h
  | x :: l, acc, h => by
    refine kept_some kf r k l _ ?_
    rcases h with ⟨y, hy, e⟩ | h
    · rcases List.mem_cons.mp hy with rfl | z
      · refine .inr ?_
        rw [dlook_put, if_pos e]; rfl
      · exact .inl ⟨y, z, e⟩
    · refine .inr ?_
      rw [dlook_put]
      split
      · rfl
      · exact h
end K94
end

/-! text WX -/
section
set_option Elab.async false
set_option autoImplicit false
set_option linter.all false
set_option maxRecDepth 100000
set_option maxHeartbeats 4000000
/-! what was taken; amounts at a moment; served -/
namespace K94
open PySem PySem.Spec PyProof.Rows L2

def enR (d : Dat) : Dat := match d with
  | .tuple [_, r] => r
  | _ => .none
def enI (d : Dat) : Dat := match d with
  | .tuple [i, _] => i
  | _ => .none
def isPut (d : Dat) : Bool := match enR d with
  | .tuple [.str z, _, _] => decide (z = "put")
  | _ => false
def putN (d : Dat) : L2.Key := match enR d with
  | .tuple [_, .str n, _] => .inr n
  | _ => .inl 0
def putV (d : Dat) : Dat := match enR d with
  | .tuple [_, n, _] => n
  | _ => .none
def putsKV (l : List Row) : List (Dat × Dat) := keptK isPut putN enI (enumD (l.map Row.dat))
theorem putsKV_atoms (l : List Row) : Atoms (putsKV l) := atoms_kept putN enI _ [] fun p hp => absurd hp List.not_mem_nil
theorem putsKV_some {l : List Row} {n z : Str} (h : Row.put n z ∈ l) : (dlook (putsKV l) (.inr n)).isSome = true := by
  refine kept_some putN enI (.inr n) _ [] (.inl ?_)
  obtain ⟨i, hi⟩ := List.mem_iff_getElem?.mp h
  have hr : (l.map Row.dat)[i]? = some (Row.put n z).dat := by rw [List.getElem?_map, hi]; rfl
  exact ⟨_, List.mem_filter.mpr ⟨List.mem_of_getElem? (enumD_get hr), rfl⟩, rfl⟩
theorem things_put : ∀ (l : List Row) (S : Kp) (t : Str × Str), t ∈ (l.foldl stRow S).things → t ∈ S.things ∨ Row.put t.1 t.2 ∈ l
  | [], S, t, h => .inl h
  | r :: l, S, t, h => by
    rcases things_put l (stRow S r) t h with z | z
    · cases r with
      | put n k =>
        rcases List.mem_append.mp z with z | z
        · exact .inl z
        · rw [List.mem_singleton.mp z]; exact .inr List.mem_cons_self
      | call c =>
        refine .inl ?_
        have z : t ∈ goneT S.things c := z
        unfold goneT at z
        split at z
        · exact z
        · exact List.mem_of_mem_eraseIdx z
    · exact .inr (List.mem_cons_of_mem _ z)
def takenV (l : List Row) : Option (Str × Str) → Dat
  | none => .none
  | some t => (dlook (putsKV l) (.inr t.1)).getD .none
def takenKV (l : List Row) : List (Dat × Dat) := ((toldN l l.length).filter fun p => p.2.isSome).map fun p => (.int (p.1 : Nat), takenV l p.2)
theorem toldKV_atoms (l : List Row) (j : Nat) : Atoms (toldKV l j) := atomsI (fun p : Nat × Option (Str × Str) => ((p.1 : Nat) : Int)) _ _
theorem toldN_nd (l : List Row) (j : Nat) : ((toldN l j).map fun p => ((p.1 : Nat) : Int)).Nodup := by
  induction j with
  | zero => exact .nil
  | succ j ih =>
    rw [toldN_succ, List.map_append]
    refine List.nodup_append.mpr ⟨ih, ?_, fun a ha b hb e => ?_⟩
    · cases toldOne l j <;> simp
    · obtain ⟨p, hp, rfl⟩ := List.mem_map.mp ha
      obtain ⟨q, hq, rfl⟩ := List.mem_map.mp hb
      have h1 := (toldN_lt hp).1
      have h2 : q.1 = j := by
        cases h : toldOne l j with
        | none => rw [h] at hq; cases hq
        | some x =>
          rw [h] at hq
          rw [List.mem_singleton.mp hq]
          unfold toldOne at h
          split at h
          · cases h; rfl
          · cases h
      omega
theorem toldKV_at {l : List Row} {p : Nat × Option (Str × Str)} (hp : p ∈ toldN l l.length) : dlook (toldKV l l.length) (.inl (p.1 : Nat)) = some (nameOf p.2) := by
  refine dlook_map (fun p : Nat × Option (Str × Str) => .inl ((p.1 : Nat) : Int)) (fun p => nameOf p.2) _ (fun y hy e => ?_) hp rfl
  have e : ((y.1 : Nat) : Int) = (p.1 : Nat) := Sum.inl.inj e
  have e : y.1 = p.1 := by omega
  have h1 := (toldN_lt hy).2
  have h2 := (toldN_lt hp).2
  rw [e, h2] at h1
  cases h1
  rfl
theorem keptK_ndF {b : Dat → Bool} {kf : Dat → L2.Key} {r : Dat → Dat} {ds : List Dat} (nd : (ds.map kf).Nodup) : keptK b kf r ds = (ds.filter b).map fun d => (kD (kf d), r d) := by
  unfold keptK
  rw [putsK kf r _ [] (fun p hp => absurd hp List.not_mem_nil) (nd.sublist ((List.filter_sublist).map _))]
  rfl
def keyI : Dat → L2.Key
  | .int i => .inl i
  | _ => .inl 0
def tkB (l : List Row) (d : Dat) : Bool := match dlook (toldKV l l.length) (keyI d) with
  | some .none => false
  | some _ => true
  | none => false
def tkR (l : List Row) (d : Dat) : Dat := match dlook (toldKV l l.length) (keyI d) with
  | some (.str n) => (dlook (putsKV l) (.inr n)).getD .none
  | _ => .none
theorem keysTold (l : List Row) (j : Nat) : (toldKV l j).map (·.1) = (toldN l j).map fun p => Dat.int ((p.1 : Nat) : Int) := by
  unfold toldKV
  rw [List.map_map]; rfl
theorem takenEq (l : List Row) : keptK (tkB l) keyI (tkR l) ((toldKV l l.length).map (·.1)) = takenKV l := by
  rw [keysTold, keptK_ndF, List.filter_map, List.map_map]
  · unfold takenKV
    have e : (toldN l l.length).filter ((tkB l) ∘ fun p => Dat.int ((p.1 : Nat) : Int)) = (toldN l l.length).filter fun p => p.2.isSome := List.filter_congr fun p hp => by
      show (match dlook (toldKV l l.length) (.inl ((p.1 : Nat) : Int)) with | some .none => false | some _ => true | none => false) = _
      rw [toldKV_at hp]
      cases p.2 <;> rfl
    rw [e]
    refine List.map_congr_left fun p hp => ?_
    have hp2 := (List.mem_filter.mp hp).1
    show (Dat.int ((p.1 : Nat) : Int), (match dlook (toldKV l l.length) (.inl ((p.1 : Nat) : Int)) with | some (.str n) => (dlook (putsKV l) (.inr n)).getD .none | _ => .none)) = _
    rw [toldKV_at hp2]
    cases h : p.2 <;> simp [nameOf, takenV]
  · rw [List.map_map]
    have := nodupMap (f := (Sum.inl : Int → L2.Key)) (fun a b e => Sum.inl.inj e) (toldN_nd l l.length)
    rw [List.map_map] at this
    exact this
section
variable {P : Program} {w : World} {K : PySem.W.Frag} {mg : Str → Option Value} {base : Heap} {k : Nat} {C : Addr}
/-! ### taken_by -/
def rTb : List Dat → Dat → Prop := fun ds d => ∃ (h : Hs) (l : List Row), HouseOk h ∧ LogOk h l ∧ l.length ≤ 900 ∧ ds = [h.dat, lgD l] ∧ d = .dict (takenKV l)
def nTb : List Str := ["house", "log", "puts", "index", "row", "told"]
theorem scTb : FnScope nTb ["house", "log"] (defScope (top 61)) := ⟨rfl, rfl, rfl, by decide +kernel, rfl, by decide +kernel, by decide +kernel⟩
theorem enumRow {l : List Row} {d : Dat} (hd : d ∈ enumD (l.map Row.dat)) : ∃ (i : Nat) (r : Row), r ∈ l ∧ d = .tuple [.int (i : Nat), r.dat] := by
  obtain ⟨i, hi⟩ := List.mem_iff_getElem?.mp hd
  have hj1 : i < l.length := by
    have := (List.getElem?_eq_some_iff.mp hi).1
    rwa [enumD_length, List.length_map] at this
  have hr3 : (l.map Row.dat)[i]? = some (l[i]).dat := by rw [List.getElem?_map, List.getElem?_eq_getElem hj1]; rfl
  rw [enumD_get hr3] at hi
  cases hi
  exact ⟨i, l[i], List.getElem_mem _, rfl⟩
theorem okTb (B : Bs K mg) (F : Stands K mg "taken_by" (top 61)) (to : Has P w K mg base 7 "told_by" (PurSp K rTo)) : Has P w K mg base 8 "taken_by" (PurSp K rTb) := by
  refine Has.pur F B scTb (fun _ _ _ _ _ _ us hl => match us, hl with | [_, _], _ => rfl) (fun ds d ⟨_, _, _, _, _, e, _⟩ => by rw [e]; rfl) fun ds d ⟨h, l, ok, lo, hl, hds, hd⟩ f cdv A outer s H g hr => ?_
  subst hds hd
  have nd := scTb.nd
  refine Run.cons (RunS.setP (i := 2) (d := .dict (putsKV l)) (EvP.dictK (own := [("index", 3), ("row", 4)]) (ds := enumD (l.map Row.dat)) (b := isPut) (kf := putN) (kd := putV) (r := enI) (f := fun d => [.im h.dat, .im (lgD l), .no, .im (enI d), .im (enR d), .no]) rfl nd (blkOk_by (N := nTb) (sc := defScope (top 61)) (by decide +kernel))
    (EvItP.enumT (.var (i := 1) rfl) (B.free _ (by decide))) (fun d hd s H C cl fp => ?_) (fun d hd s H C cl fp => ?_) (fun d hd hb => ?_) (fun d hd hb s H C cl fp => ?_) ?_) ?_ nd)
  · obtain ⟨i, r, hr, rfl⟩ := enumRow hd
    exact AsDV.pair (i := 3) (j := 4) rfl nd
  · obtain ⟨i, r, hr, rfl⟩ := enumRow hd
    cases r with
    | put n z => exact EvTP.cmp (EvP.ix (.var (i := 4) rfl) .int (Ix2.tup atI0)) .str Cmp2.eqS
    | call c =>
      have e : isPut (.tuple [.int (i : Nat), (Row.call c).dat]) = decide (("call" : Str) = "put") := by
        have : decide (("call" : Str) = "put") = false := by decide
        rw [this]; rfl
      rw [e]
      exact EvTP.cmp (EvP.ix (.var (i := 4) rfl) .int (Ix2.tup atI0)) .str Cmp2.eqS
  · obtain ⟨i, r, hr, rfl⟩ := enumRow hd
    cases r with
    | put n z => exact ⟨.str n, fun s H C cl fp => .ix (.var (i := 4) rfl) .int (Ix2.tup atI1)⟩
    | call c => cases hb
  · obtain ⟨i, r, hr, rfl⟩ := enumRow hd
    exact .var (i := 3) rfl
  · rw [enumD_length, List.length_map]; omega
  refine Run.cons (RunS.setP (i := 5) (EvP.own g to hr (.cons (.var (i := 0) rfl) (.cons (.var (i := 1) rfl) .nil)) ⟨h, l, ok, lo, hl, rfl, rfl⟩) ?_ nd)
  refine Run.one (RunS.retP (d := .dict (takenKV l)) (EvP.cast (EvP.dictKL (own := [("index", 3)]) (ps := toldKV l l.length) (b := tkB l) (kf := keyI) (kd := id) (r := tkR l) (f := fun d => [.im h.dat, .im (lgD l), .im (.dict (putsKV l)), .im d, .no, .im (.dict (toldKV l l.length))]) rfl nd (blkOk_by (N := nTb) (sc := defScope (top 61)) (by decide +kernel))
    (EvV.var (i := 5) rfl) (.inr (toldKV_atoms _ _)) (fun d hd s H C cl fp => AsDV.name (i := 3) nd) (fun d hd s H C cl fp => ?_) (fun d hd hb => ?_) (fun d hd hb s H C cl fp => ?_) ?_) (congrArg Dat.dict (takenEq l))) rfl)
  · rw [keysTold] at hd
    obtain ⟨p, hp, rfl⟩ := List.mem_map.mp hd
    refine EvTP.cmp (EvP.dgetK g.blk (k := .inl ((p.1 : Nat) : Int)) (.var (i := 5) rfl) (.var (i := 3) rfl) (.int _) (toldKV_atoms _ _) (toldKV_at hp)) .non (Cmp2.notNone ?_)
    show (match dlook (toldKV l l.length) (.inl ((p.1 : Nat) : Int)) with | some .none => false | some _ => true | none => false) = _
    rw [toldKV_at hp]
    cases p.2 <;> rfl
  · rw [keysTold] at hd
    obtain ⟨p, hp, rfl⟩ := List.mem_map.mp hd
    exact ⟨.int _, fun s H C cl fp => .var (i := 3) rfl⟩
  · rw [keysTold] at hd
    obtain ⟨p, hp, rfl⟩ := List.mem_map.mp hd
    have hk := toldKV_at hp
    have e : tkR l (.int ((p.1 : Nat) : Int)) = (match dlook (toldKV l l.length) (.inl ((p.1 : Nat) : Int)) with | some (.str n) => (dlook (putsKV l) (.inr n)).getD .none | _ => .none) := rfl
    have eb : tkB l (.int ((p.1 : Nat) : Int)) = (match dlook (toldKV l l.length) (.inl ((p.1 : Nat) : Int)) with | some .none => false | some _ => true | none => false) := rfl
    rw [eb] at hb
    rw [e]
    rw [hk] at hb ⊢
    obtain ⟨i, o⟩ := p
    cases o with
    | none => cases hb
    | some t =>
      have h1 := (toldN_lt hp).2
      have hput : Row.put t.1 t.2 ∈ l := by
        unfold toldOne at h1
        split at h1
        · rename_i c hc
          simp only [Option.some.injEq, Prod.mk.injEq, true_and] at h1
          have := (firstOf_mem h1).1
          rcases things_put (l.take i) k0 t this with z | z
          · cases z
          · exact List.mem_of_mem_take z
        · cases h1
      obtain ⟨v, hv⟩ := Option.isSome_iff_exists.mp (putsKV_some hput)
      show EvP _ _ _ ((dlook (putsKV l) (.inr t.1)).getD .none)
      rw [hv]
      exact EvP.dgetK g.blk (k := .inr t.1) (.var (i := 2) rfl) (EvP.dgetK g.blk (k := .inl ((i : Nat) : Int)) (.var (i := 5) rfl) (.var (i := 3) rfl) (.int _) (toldKV_atoms _ _) hk) (.str _) (putsKV_atoms l) hv
  · unfold toldKV
    rw [List.length_map]
    have := toldN_len l l.length
    omega
end
end K94
end

/-! text WY -/
section
set_option Elab.async false
set_option autoImplicit false
set_option linter.all false
set_option maxRecDepth 100000
set_option maxHeartbeats 4000000
/-! amounts at a moment -/
namespace K94
open PySem PySem.Spec PyProof.Rows L2
theorem LogOk.take {h : Hs} {l : List Row} (o : LogOk h l) (j : Nat) : LogOk h (l.take j) := ⟨fun r hr => o.1 r (List.mem_of_mem_take hr), o.2.sublist ((List.take_sublist j l).filterMap _)⟩
theorem LogOk.things {h : Hs} {l : List Row} (o : LogOk h l) : ∀ t ∈ (kAt l).things, t.2 ∈ h.ks := fun t ht => by
  rcases things_put l k0 t ht with z | z
  · cases z
  · exact (o.1 _ z).1
section
variable {P : Program} {w : World} {K : PySem.W.Frag} {mg : Str → Option Value} {base : Heap} {k : Nat} {C : Addr}
/-! ### amounts_at -/
def rAa : List Dat → Dat → Prop := fun ds d => ∃ (h : Hs) (l : List Row) (j : Nat), HouseOk h ∧ LogOk h l ∧ l.length ≤ 900 ∧ j ≤ l.length ∧ ds = [h.dat, lgD l, .int (j : Nat)] ∧ d = mD (sS h.ks) (cntA (kAt (l.take j)).things)
def nAa : List Str := ["house", "log", "moment"]
theorem scAa : FnScope nAa ["house", "log", "moment"] (defScope (top 62)) := ⟨rfl, rfl, rfl, by decide +kernel, rfl, by decide +kernel, by decide +kernel⟩
theorem okAa (B : Bs K mg) (c : Cl P w K mg base C) (F : Stands K mg "amounts_at" (top 62)) (sb : Has P w K mg base 7 "store_behind" (NewSp K (rSb C))) (sa : HasM P w K mg base 1 C "amounts" (BorSp K (rSa C))) : Has P w K mg base 8 "amounts_at" (PurSp K rAa) := by
  refine Has.pur F B scAa (fun _ _ _ _ _ _ us hl => match us, hl with | [_, _, _], _ => rfl) (fun ds d ⟨_, _, _, _, _, _, _, e, _⟩ => by rw [e]; rfl) fun ds d ⟨h, l, j, ok, lo, hl, hj, hds, hd⟩ f cdv A outer s H g hr => ?_
  subst hds hd
  have e1 : cutD (l.map Row.dat) none (some (j : Int)) = (l.take j).map Row.dat := by rw [cutTo _ (by rw [List.length_map]; exact hj), List.map_take]
  have lt := takeLen hl j
  refine Run.one (RunS.retI (EvI.methNew g c.c sa (hr.mono (by decide)) (Ev.ownN (Ρ := fun a o => ∃ dx ra ta na, o = kO C dx ra ta na h (kAt (l.take j))) g sb hr (.cons (.var (i := 0) rfl) (.cons (EvP.cast (d' := lgD (l.take j)) (EvP.slice (.var (i := 1) rfl) EvOP.none_ (EvOP.some_ (.var (i := 2) rfl)) Sl2.tup) (congrArg Dat.tuple e1)) .nil)) ⟨h, l.take j, ok, lo.take j, lt, rfl, fun a dx ra ta na => ⟨dx, ra, ta, na, rfl⟩⟩ fun a o ⟨dx, ra, ta, na, e⟩ => ?_)))
  subst e
  exact ⟨a, dx, ra, ta, na, h.dat, _, _, _, fun d o' => d = mD (sS h.ks) (cntA (kAt (l.take j)).things), rfl, ⟨dx, ra, ta, na, h, _, _, _, ok, (lo.take j).things, rfl, rfl, rfl⟩, fun d o' e => by rw [e]; rfl⟩
end
end K94
end

/-! text WZ -/
section
set_option Elab.async false
set_option autoImplicit false
set_option linter.all false
set_option maxRecDepth 100000
set_option maxHeartbeats 4000000
/-! served -/
namespace K94
open PySem PySem.Spec PyProof.Rows L2
section
variable {X : Cx} {δ : List Cell} {a : Expr} {pos : Pos}
theorem EvP.neg {i : Int} (ha : EvP X δ a (.int i)) : EvP X δ (.UnaryOp .USub a pos) (.int (-i)) := fun σ G H m Q q => PE.w (pe_un un_neg peW) (ha σ G H m _ fun v G1 H1 r w ex => by
  cases r
  exact ⟨i, rfl, q _ G1 H1 (.int _) w ex⟩)
end
def tkI (l : List Row) (m : Nat) : Int := if (dlook (takenKV l) (.inl (m : Nat))).isSome = true then 1 else 0
def svA (l : List Row) : Nat → Int
  | 0 => 0
  | i + 1 => svA l i + tkI l i
def svL (l : List Row) (j : Nat) : List Dat := (List.range (j + 1)).map fun i => .int (svA l i)
theorem svL_succ (l : List Row) (j : Nat) : svL l (j + 1) = svL l j ++ [.int (svA l (j + 1))] := by
  unfold svL
  rw [List.range_succ, List.map_append]; rfl
theorem svL_last (l : List Row) (j : Nat) : atI (svL l j) (-1) = some (.int (svA l j)) := by
  have e : ixN (svL l j).length (-1) = some j := by
    unfold svL
    rw [List.length_map, List.length_range]
    simp [ixN]
    omega
  unfold atI
  rw [e]
  show (svL l j)[j]? = _
  unfold svL
  rw [List.getElem?_map, List.getElem?_range (by omega)]; rfl
section
variable {P : Program} {w : World} {K : PySem.W.Frag} {mg : Str → Option Value} {base : Heap} {k : Nat} {C : Addr}
def rSv : List Dat → Dat → Prop := fun ds d => ∃ (h : Hs) (l : List Row), HouseOk h ∧ LogOk h l ∧ l.length ≤ 900 ∧ ds = [h.dat, lgD l] ∧ d = .list (svL l l.length)
def nSv : List Str := ["house", "log", "taken", "found", "index"]
theorem scSv : FnScope nSv ["house", "log"] (defScope (top 63)) := ⟨rfl, rfl, rfl, by decide +kernel, rfl, by decide +kernel, by decide +kernel⟩
theorem okSv (B : Bs K mg) (F : Stands K mg "served_at" (top 63)) (tb : Has P w K mg base 8 "taken_by" (PurSp K rTb)) : Has P w K mg base 9 "served_at" (PurSp K rSv) := by
  refine Has.pur F B scSv (fun _ _ _ _ _ _ us hl => match us, hl with | [_, _], _ => rfl) (fun ds d ⟨_, _, _, _, _, e, _⟩ => by rw [e]; rfl) fun ds d ⟨h, l, ok, lo, hl, hds, hd⟩ f cdv A outer s H g hr => ?_
  subst hds hd
  have nd := scSv.nd
  have at_ : Atoms (takenKV l) := atomsI (fun p : Nat × Option (Str × Str) => ((p.1 : Nat) : Int)) _ _
  refine Run.cons (RunS.par2 (i := 2) (j := 3) (EvP.ev (EvP.own g tb hr (.cons (.var (i := 0) rfl) (.cons (.var (i := 1) rfl) .nil)) ⟨h, l, ok, lo, hl, rfl, rfl⟩) (Ev.newL (EvAP.ea (.cons .int .nil) ⟨(show (1 : Nat) ≤ sizeLine by decide), fun q => ?_⟩))) rfl nd)
  refine Run.cons (RunS.for_ ((EvItP.range1 (n := (l.map Row.dat).length) (EvP.callB (fid := "len") (.cons (.var (i := 1) rfl) .nil) CallD.lenT (B.free _ (by decide))) (by rw [List.length_map]; omega) (B.free _ (by decide))).i ?_) rfl)
  refine ⟨fun j δ' => ∃ x, δ' = [.im h.dat, .im (lgD l), .im (.dict (takenKV l)), .ow q (.d (.list (svL l j))), x], ⟨_, rfl⟩, fun j d δ' hj ⟨x, e⟩ => ?_, fun δ' ⟨x, e⟩ => ?_⟩
  · subst e
    have hj1 : j < (l.map Row.dat).length := by
      have := (List.getElem?_eq_some_iff.mp hj).1
      rwa [rangeD_length] at this
    rw [rangeD_get hj1] at hj
    cases hj
    have e0 : (0 : Int) + (j : Nat) = (j : Nat) := by omega
    rw [e0]
    rw [List.length_map] at hj1
    refine ⟨_, AsD.name (i := 4) nd, ?_⟩
    refine Run.one (RunS.expr (Ev.append (i := 3) (q := q) (EvP.i (d := .int (svA l (j + 1))) (EvP.bin (EvP.ownIx (i := 3) (q := q) rfl (EvP.neg .int) (svL_last l j)) (EvP.callT (T := "int") (.cons (EvP.dinK g (k := .inl (j : Nat)) (.var (i := 4) rfl) (.var (i := 2) rfl) (.int _) at_) .nil) CallD.intB (B.free _ (by decide))) Op2.add) ⟨svL l j, rfl, ?_, ?_⟩) ⟨_, rfl⟩))
    · unfold svL; rw [List.length_map, List.length_range]; omega
    · exact ⟨.im (.int (j : Nat)), by rw [svL_succ]; rfl⟩
  · subst e
    rw [rangeD_length, List.length_map]
    exact Run.one (RunS.ret (Ev.giveVar (i := 3) rfl rfl))
end
end K94
end

/-! text XA -/
section
set_option Elab.async false
set_option autoImplicit false
set_option linter.all false
set_option maxRecDepth 100000
set_option maxHeartbeats 4000000
/-! the law: drawing -/
namespace K94
open PySem PySem.Spec PyProof.Rows L2

structure Bag where
  a : Int
  b : Int
  c : Int
  cells : List Int
  few : cells.length ≤ 63
def Bag.l (B : Bag) : List Dat := [.int B.a, .int B.b, .int B.c, .list (B.cells.map Dat.int)]
def bgO (B : Bag) : Ow := .d (.list B.l)
theorem atI3 {α : Type} {a b c d : α} {l : List α} : atI (a :: b :: c :: d :: l) 3 = some d := by
  have : ixN (a :: b :: c :: d :: l).length 3 = some 3 := ixN_pos (j := 3) (by simp)
  unfold atI
  rw [this]; rfl
def ifBody : Stmt → List Stmt
  | .If _ b _ _ => b
  | _ => []
theorem cutInts (cells : List Int) (lo hi : Option Int) : ∃ ys : List Int, cutD (cells.map Dat.int) lo hi = ys.map Dat.int ∧ ys.length ≤ cells.length := by
  refine ⟨(cells.drop (HT.sIx (cells.map Dat.int).length 0 lo)).take (HT.sIx (cells.map Dat.int).length (cells.map Dat.int).length hi - HT.sIx (cells.map Dat.int).length 0 lo), ?_, ?_⟩
  · unfold cutD
    rw [List.map_take, List.map_drop]
  · rw [List.length_take, List.length_drop]; omega
section
variable {P : Program} {w : World} {K : PySem.W.Frag} {mg : Str → Option Value} {base : Heap} {k : Nat} {C : Addr}
/-! ### _law_take -/
def rTake : Ow → List Dat → (Dat → Ow → Prop) → Prop := fun o ds Φ => ∃ (B : Bag) (n : Nat), 1 ≤ n ∧ n ≤ 1000000 ∧ o = bgO B ∧ ds = [.int (n : Nat)] ∧ ∀ (v : Nat) (B' : Bag), v < n → Φ (.int (v : Nat)) (bgO B')
def nTake : List Str := ["_law_bag_here", "_law_many", "_law_cell", "_law_stirred", "_law_value", "_law_begin", "_law_second"]
theorem scTake : FnScope nTake ["_law_bag_here", "_law_many"] (defScope (top 66)) := ⟨rfl, rfl, rfl, by decide +kernel, rfl, by decide +kernel, by decide +kernel⟩
theorem modNat (x : Int) {n : Nat} (h : 1 ≤ n) : ∃ v : Nat, v < n ∧ x % (n : Int) = (v : Nat) := by
  have h1 := Int.emod_nonneg x (b := (n : Int)) (by omega)
  have h2 := Int.emod_lt_of_pos x (b := (n : Int)) (by omega)
  exact ⟨(x % (n : Int)).toNat, by omega, by omega⟩
theorem okTake (B : Bs K mg) (F : Stands K mg "_law_take" (top 66)) : Has P w K mg base 1 "_law_take" (BorSp K rTake) := by
  refine Has.bor F B scTake (fun _ _ _ _ _ _ us hl => match us, hl with | [_, _], _ => rfl) (fun o ds d ⟨_, _, _, _, _, e, _⟩ => by rw [e]; rfl) fun a o ds Φ ⟨G, n, h1, h2, ho, hds, hΦ⟩ f cdv A outer s H g hr => ?_
  subst ho hds
  have nd := scTake.nd
  have rest : ∀ (G : Bag) (x2 x3 : Cell), Run (CxD P w K mg base nTake "_law_take" (top 66) f cdv A outer s H) [.ow a (bgO G), .im (.int (n : Nat)), x2, x3, .no, .no, .no] ((defBody (top 66)).drop 1) (BorOut a (bgO G) Φ) := fun G x2 x3 => by
    refine Run.cons (RunS.if_ (EvTP.t (c := decide ((0 : Int) < G.a)) (EvTP.cmp (EvP.ownIx (i := 0) (q := a) rfl .int atI0) .int Cmp2.gt) ?_))
    by_cases hp : (0 : Int) < G.a
    · rw [if_pos (decide_eq_true hp)]
      obtain ⟨v, hv, ev⟩ := modNat G.a h1
      refine Run.cons (RunS.setP (i := 4) (d := .int (v : Nat)) (EvP.cast (EvP.bin (EvP.callT (T := "int") (.cons (EvP.ownIx (i := 0) (q := a) rfl .int atI0) .nil) CallD.intI (B.free _ (by decide))) (.var (i := 1) rfl) (Op2.mod (by omega))) (congrArg Dat.int ev)) ?_ nd)
      refine Run.cons (RunS.setL (i := 0) (q := a) (j := 0) (as := G.l) (EvP.i (d := .int (G.a / (n : Nat))) (EvP.bin (EvP.callT (T := "int") (.cons (EvP.ownIx (i := 0) (q := a) rfl .int atI0) .nil) CallD.intI (B.free _ (by decide))) (.var (i := 1) rfl) (Op2.fdiv ⟨by omega, by omega⟩)) ⟨G.l, rfl, .int, (show (0 : Nat) < 4 by decide), ?_⟩))
      exact Run.one (RunS.retP (.var (i := 4) rfl) ⟨_, bgO ⟨G.a / (n : Nat), G.b, G.c, G.cells, G.few⟩, rfl, rfl, fun _ => rfl, hΦ v _ hv⟩)
    · rw [if_neg (by simpa using hp)]
      obtain ⟨v, hv, ev⟩ := modNat ((((((G.b + 1) * 39373) % 1000000007 * (((G.b + 1) * 39373) % 1000000007)) % 998244353 * 30011) % 998244353) / 7) h1
      have hb1 := Int.emod_nonneg ((G.b + 1) * 39373) (b := 1000000007) (by decide)
      have hb2 := Int.emod_lt_of_pos ((G.b + 1) * 39373) (b := 1000000007) (by decide)
      refine Run.nil ?_
      refine Run.cons (RunS.setP (i := 5) (d := .int (((G.b + 1) * 39373) % 1000000007)) (EvP.bin (EvP.callT (T := "int") (.cons (EvP.bin (EvP.bin (EvP.ownIx (i := 0) (q := a) rfl .int atI1) .int Op2.add) .int (Op2.mul (.inr ⟨by decide, by decide⟩))) .nil) CallD.intI (B.free _ (by decide))) .int (Op2.mod (by decide))) ?_ nd)
      generalize ((G.b + 1) * 39373) % 1000000007 = z at hb1 hb2 ev
      refine Run.cons (RunS.setP (i := 6) (d := .int (((z * z) % 998244353 * 30011) % 998244353)) (EvP.bin (EvP.callT (T := "int") (.cons (EvP.bin (EvP.bin (EvP.callT (T := "int") (.cons (EvP.bin (.var (i := 5) rfl) (.var (i := 5) rfl) (Op2.mul (.inl ⟨by omega, by omega⟩))) .nil) CallD.intI (B.free _ (by decide))) .int (Op2.mod (by decide))) .int (Op2.mul (.inr ⟨by decide, by decide⟩))) .nil) CallD.intI (B.free _ (by decide))) .int (Op2.mod (by decide))) ?_ nd)
      refine Run.one (RunS.retP (d := .int (v : Nat)) (EvP.cast (EvP.bin (EvP.callT (T := "int") (.cons (EvP.bin (.var (i := 6) rfl) .int (Op2.fdiv ⟨by decide, by decide⟩)) .nil) CallD.intI (B.free _ (by decide))) (.var (i := 1) rfl) (Op2.mod (by omega))) (congrArg Dat.int ev)) ⟨_, bgO G, rfl, rfl, fun _ => rfl, hΦ v _ hv⟩)
  refine Run.cons (RunS.if_ (EvTP.t (c := decide (G.a = 0)) (EvTP.cmp (EvP.ownIx (i := 0) (q := a) rfl .int atI0) .int Cmp2.eqI) ?_))
  by_cases ha : G.a = 0
  · rw [if_pos (decide_eq_true ha)]
    have fin : ∀ (G' : Bag) (x : Int), Run (CxD P w K mg base nTake "_law_take" (top 66) f cdv A outer s H) [.ow a (bgO G'), .im (.int (n : Nat)), .im (.int x), .no, .no, .no, .no] ((ifBody ((defBody (top 66)).headD (.Pass ⟨0, 0, 0, 0⟩))).drop 3) (seqPost (CxD P w K mg base nTake "_law_take" (top 66) f cdv A outer s H) ((defBody (top 66)).drop 1) (BorOut a (bgO G) Φ)) := fun G' x => by
      refine Run.cons (RunS.setP (i := 3) (d := .int (G'.b * 48271 + x % 2147483647 + 7919 * G'.c)) (EvP.bin (EvP.bin (EvP.bin (EvP.ownIx (i := 0) (q := a) rfl .int atI1) .int (Op2.mul (.inr ⟨by decide, by decide⟩))) (EvP.bin (EvP.callT (T := "int") (.cons (.var (i := 2) rfl) .nil) CallD.intI (B.free _ (by decide))) .int (Op2.mod (by decide))) Op2.add) (EvP.bin .int (EvP.ownIx (i := 0) (q := a) rfl .int atI2) (Op2.mul (.inl ⟨by decide, by decide⟩))) Op2.add) ?_ nd)
      refine Run.one (RunS.setL (i := 0) (q := a) (j := 1) (as := G'.l) (EvP.i (d := .int ((G'.b * 48271 + x % 2147483647 + 7919 * G'.c) % 2147483647)) (EvP.bin (EvP.callT (T := "int") (.cons (.var (i := 3) rfl) .nil) CallD.intI (B.free _ (by decide))) .int (Op2.mod (by decide))) ⟨G'.l, rfl, .int, (show (1 : Nat) < 4 by decide), ?_⟩))
      exact rest ⟨G'.a, (G'.b * 48271 + x % 2147483647 + 7919 * G'.c) % 2147483647, G'.c, G'.cells, G'.few⟩ _ _
    obtain ⟨ys, ey, ly⟩ := cutInts G.cells (some G.c) none
    have few := G.few
    obtain ⟨x, ex⟩ : ∃ x : Int, atI (ys.map Dat.int ++ [.int 0]) 0 = some (.int x) := by
      cases ys with
      | nil => exact ⟨0, atI0⟩
      | cons y ys => exact ⟨y, atI0⟩
    refine Run.cons (RunS.setP (i := 2) (d := .int x) (EvP.ix (EvP.bin (EvP.cast (EvP.slice (l := some G.c) (EvP.ownIx (i := 0) (q := a) rfl .int atI3) (EvOP.some_ (EvP.ownIx (i := 0) (q := a) rfl .int atI2)) EvOP.none_ Sl2.lst) (congrArg Dat.list ey)) (.lst (.cons .int .nil) (Nat.le_of_ble_eq_true rfl)) (Op2.cat ?_)) .int (Ix2.lst ex)) ?_ nd)
    · rw [List.length_map]
      have : (1000 : Nat) ≤ sizeLine := by decide
      show ys.length + 1 ≤ sizeLine
      omega
    refine Run.cons (RunS.augL (i := 0) (q := a) (j := 2) (n := G.c) (c := 1) (as := G.l) rfl .int rfl .int ?_)
    refine Run.cons (RunS.if_ (EvTP.t (EvTP.cmp (.var (i := 2) rfl) (EvP.bin .int .int (Op2.pow ⟨by decide, by decide, by decide⟩)) Cmp2.ge) ?_))
    split
    · refine Run.one (RunS.setL (i := 0) (q := a) (j := 0) (as := (Bag.mk G.a G.b (G.c + 1) G.cells G.few).l) (EvP.i (.var (i := 2) rfl) ⟨(Bag.mk G.a G.b (G.c + 1) G.cells G.few).l, rfl, .int, (show (0 : Nat) < 4 by decide), ?_⟩))
      exact fin ⟨x, G.b, G.c + 1, G.cells, G.few⟩ x
    · exact Run.nil (fin ⟨G.a, G.b, G.c + 1, G.cells, G.few⟩ x)
  · rw [if_neg (by simpa using ha)]
    exact Run.nil (rest G .no .no)
end
end K94
end

/-! text XB -/
section
set_option Elab.async false
set_option autoImplicit false
set_option linter.all false
set_option maxRecDepth 100000
set_option maxHeartbeats 4000000
/-! the law: one of many, an order drawn -/
namespace K94
open PySem PySem.Spec PyProof.Rows L2
section
variable {P : Program} {w : World} {K : PySem.W.Frag} {mg : Str → Option Value} {base : Heap} {k : Nat} {C : Addr}
/-! ### _law_one -/
def rOne : Ow → List Dat → (Dat → Ow → Prop) → Prop := fun o ds Φ => ∃ (B : Bag) (xs : List Dat), 1 ≤ xs.length ∧ xs.length ≤ 1000 ∧ o = bgO B ∧ (ds = [.list xs] ∨ ds = [.tuple xs]) ∧ ∀ d ∈ xs, ∀ B', Φ d (bgO B')
def nOne : List Str := ["_law_bag_here", "_law_things"]
theorem scOne : FnScope nOne ["_law_bag_here", "_law_things"] (defScope (top 67)) := ⟨rfl, rfl, rfl, by decide +kernel, rfl, by decide +kernel, by decide +kernel⟩
theorem okOne (B : Bs K mg) (F : Stands K mg "_law_one" (top 67)) (tk : Has P w K mg base 1 "_law_take" (BorSp K rTake)) : Has P w K mg base 2 "_law_one" (BorSp K rOne) := by
  refine Has.bor F B scOne (fun _ _ _ _ _ _ us hl => match us, hl with | [_, _], _ => rfl) (fun o ds d ⟨_, _, _, _, _, e, _⟩ => by rcases e with e | e <;> rw [e] <;> rfl) fun a o ds Φ ⟨G, xs, h1, h2, ho, hds, hΦ⟩ f cdv A outer s H g hr => ?_
  subst ho
  rcases hds with rfl | rfl
  · refine Run.one (RunS.retI (EvI.ix (EvP.i (.var (i := 1) rfl) (EvI.ownB (i := 0) (q := a) g tk hr ⟨_, rfl⟩ (EvAP.ea (.cons (EvP.callB (fid := "len") (.cons (.var (i := 1) rfl) .nil) CallD.lenL (B.free _ (by decide))) .nil) ⟨_, fun d o' => ∃ (v : Nat) (B' : Bag), v < xs.length ∧ d = .int (v : Nat) ∧ o' = bgO B', rfl, ⟨G, xs.length, h1, by omega, rfl, rfl, fun v B' hv => ⟨v, B', hv, rfl, rfl⟩⟩, fun d o' ⟨v, B', hv, e1, e2⟩ _ => ?_⟩)))))
    subst e1 e2
    exact ⟨xs[v], Ix2.lst (atIn (List.getElem?_eq_getElem hv)), _, bgO B', rfl, rfl, fun _ => rfl, hΦ _ (List.getElem_mem hv) B'⟩
  · refine Run.one (RunS.retI (EvI.ix (EvP.i (.var (i := 1) rfl) (EvI.ownB (i := 0) (q := a) g tk hr ⟨_, rfl⟩ (EvAP.ea (.cons (EvP.callB (fid := "len") (.cons (.var (i := 1) rfl) .nil) CallD.lenT (B.free _ (by decide))) .nil) ⟨_, fun d o' => ∃ (v : Nat) (B' : Bag), v < xs.length ∧ d = .int (v : Nat) ∧ o' = bgO B', rfl, ⟨G, xs.length, h1, by omega, rfl, rfl, fun v B' hv => ⟨v, B', hv, rfl, rfl⟩⟩, fun d o' ⟨v, B', hv, e1, e2⟩ _ => ?_⟩)))))
    subst e1 e2
    exact ⟨xs[v], Ix2.tup (atIn (List.getElem?_eq_getElem hv)), _, bgO B', rfl, rfl, fun _ => rfl, hΦ _ (List.getElem_mem hv) B'⟩
/-! ### _law_mixed -/
def rMix : Ow → List Dat → (Dat → Ow → Prop) → Prop := fun o ds Φ => ∃ (B : Bag) (xs : List Dat), xs.length ≤ 900 ∧ o = bgO B ∧ ds = [.list xs] ∧ ∀ (ys : List Dat) (B' : Bag), ys.Perm xs → Φ (.list ys) (bgO B')
def nMix : List Str := ["_law_bag_here", "_law_things", "_law_found", "_law_thing"]
theorem scMix : FnScope nMix ["_law_bag_here", "_law_things"] (defScope (top 68)) := ⟨rfl, rfl, rfl, by decide +kernel, rfl, by decide +kernel, by decide +kernel⟩
theorem okMix (B : Bs K mg) (F : Stands K mg "_law_mixed" (top 68)) (tk : Has P w K mg base 1 "_law_take" (BorSp K rTake)) : Has P w K mg base 2 "_law_mixed" (BorSp K rMix) := by
  refine Has.bor F B scMix (fun _ _ _ _ _ _ us hl => match us, hl with | [_, _], _ => rfl) (fun o ds d ⟨_, _, _, _, e, _⟩ => by rw [e]; rfl) fun a o ds Φ ⟨G, xs, h1, ho, hds, hΦ⟩ f cdv A outer s H g hr => ?_
  subst ho hds
  have nd := scMix.nd
  refine Run.cons (RunS.set (i := 2) (Ev.newL (.nil ⟨Nat.zero_le _, fun q => ?_⟩)) nd)
  refine Run.cons (RunS.for_ ((EvItP.list (.var (i := 1) rfl)).i ?_) rfl)
  refine ⟨fun j δ' => ∃ (B' : Bag) (ys : List Dat) (x : Cell), ys.Perm (xs.take j) ∧ δ' = [.ow a (bgO B'), .im (.list xs), .ow q (.d (.list ys)), x], ⟨G, [], .no, .nil, rfl⟩, fun j d δ' hj ⟨B', ys, x, hp, e⟩ => ?_, fun δ' ⟨B', ys, x, hp, e⟩ => ?_⟩
  · subst e
    refine ⟨_, AsD.name (i := 3) nd, ?_⟩
    have ly : ys.length ≤ 900 := by rw [hp.length_eq]; exact takeLen h1 j
    refine Run.one (RunS.expr (Ev.insert (i := 2) (q := q) (EvI.ownB (i := 0) (q := a) g tk hr ⟨_, rfl⟩ (EvAP.ea (.cons (d := .int ((ys.length + 1 : Nat) : Int)) (EvP.bin (EvP.readOwn (i := 2) rfl rfl (EvP.callB (fid := "len") (.cons (.var (i := 2) rfl) .nil) CallD.lenL (B.free _ (by decide))) rfl) .int Op2.add) .nil) ⟨_, fun d o' => ∃ (v : Nat) (B' : Bag), v < ys.length + 1 ∧ d = .int (v : Nat) ∧ o' = bgO B', rfl, ⟨B', ys.length + 1, by omega, by omega, rfl, rfl, fun v B' hv => ⟨v, B', hv, rfl, rfl⟩⟩, fun d1 o' ⟨v, B2, hv, e1, e2⟩ _ => ?_⟩)) ⟨_, rfl⟩))
    subst e1 e2
    refine EvP.i (.var (i := 3) rfl) ⟨ys, v, rfl, rfl, by omega, by omega, B2, _, .im d, ?_, rfl⟩
    rw [List.take_add_one, hj, Option.toList_some]
    have p1 : (ys.take v ++ [d] ++ ys.drop v).Perm (ys ++ [d]) := by
      have : (ys.take v ++ [d] ++ ys.drop v).Perm (ys.take v ++ (ys.drop v ++ [d])) := by
        rw [List.append_assoc]
        exact List.Perm.append_left _ List.perm_append_comm
      rwa [← List.append_assoc, List.take_append_drop] at this
    exact p1.trans (hp.append_right _)
  · subst e
    rw [List.take_length] at hp
    exact Run.one (RunS.ret (Ev.giveVar (i := 2) rfl ⟨_, bgO B', rfl, rfl, fun _ => rfl, hΦ ys B' hp⟩))
end
end K94
end

/-! text XC -/
section
set_option Elab.async false
set_option autoImplicit false
set_option linter.all false
set_option maxRecDepth 100000
set_option maxHeartbeats 4000000
/-! the law: the bag -/
namespace K94
open PySem PySem.Spec PyProof.Rows L2
section
variable {X : Cx} {δ : List Cell} {i : Nat} {x : Str} {p pos : Pos}
/-- a slice of the script -/
theorem EvP.sliceSc {lo hi : Option Expr} {p2 : Pos} {as : List Dat} {l u : Option Int} (h : δ[i]? = some (.sc as)) (hl : EvOP X δ lo l) (hu : EvOP X δ hi u) (hn : NameAt X i x := by exact ⟨rfl, by first | exact Or.inl rfl | exact Or.inr (Or.inl rfl) | exact Or.inr (Or.inr rfl), by decide, by decide⟩) :
    EvP X δ (.Subscript (.Name x p) (.Slice lo hi none p2) pos) (.list (cutD as l u)) := fun σ G H m Q q => by
  obtain ⟨v0, ev, a, xs, rfl, sq, ra⟩ := m.get h
  refine PE.w (pe_slice (r := fun x lo hi H Q => ∀ (pins : List (Addr × Obj)) (s : Shared) (σ : SS) (v vl vu : Value) (sl : Addr), Inv X pins σ H s → RelV x v → s.heap.IsSliceOf sl vl vu .none → IsPart vl lo → IsPart vu hi →
    ∃ T fid, typeLookup (.type T) "__getitem__" = pure (some (.builtin fid)) ∧ s.TypeIs v T ∧ wpAny (model X.prog X.w) X.A (getItem v (.ref sl)) (EP X pins σ Q) X.xe s) (fun pins s σ H x v vl vu lo hi sl Q I rx hs pl pu h => h pins s σ v vl vu sl I rx hs pl pu) (peName hn) (po_part lo) (po_part hi)) ?_
  refine ⟨.ref a, ev, hl.run m fun G2 H2 m2 f2 => hu.run m2 fun G3 H3 m3 f3 => ?_⟩
  intro pins s σ v vl vu sl I rv hs pl pu
  have le := f2.gg.trans f3.gg
  refine sl_list pins s σ H3 _ v vl vu l u sl Q I rv hs pl pu ⟨a, xs, rfl, m3.wd.sqL (le.sqL sq), fun p np => ?_⟩
  have ex := Ext.new (o := .lst (cutV xs l u)) m3.wd np
  exact q _ _ _ (.lst upd_same ((ra.cut l u).mono (le.trans ex.gg))) (m3.wd.new np) (f2.trans (f3.trans ex))
end
section
variable {P : Program} {w : World} {K : PySem.W.Frag} {mg : Str → Option Value} {base : Heap} {k : Nat} {C : Addr}
/-- the script goes in, a bag comes out -/
def BagSp (K : PySem.W.Frag) : SpG := fun vs H Q => ∃ (G : Hp) (a : Addr) (xs : List V) (ns : List Int), vs = [.ref a] ∧ SqL K G a xs ∧ RpA K G xs (ns.map Dat.int) ∧ Wd G H ∧ ∀ (B : Bag) (b : Addr) (G' H' : Hp), OwAt K G' H' b (bgO B) → Wd G' H' → Fr [] G H [b] G' H' → Q (.ref b) H'
def nBag : List Str := ["_law_script", "_law_cell"]
theorem scBag : FnScope nBag ["_law_script"] (defScope (top 65)) := ⟨rfl, rfl, rfl, by decide +kernel, rfl, by decide +kernel, by decide +kernel⟩
theorem okBag (B : Bs K mg) (F : Stands K mg "_law_bag" (top 65)) : Has P w K mg base 1 "_law_bag" (BagSp K) := by
  obtain ⟨f, fd, F, hm⟩ := F
  refine ⟨f, fd, ["_law_script"], FnG.body F scBag (fun vs H Q ⟨_, _, _, _, e, _⟩ => by rw [e]; rfl) fun cdv A outer s H vs Q hr gd ⟨G, a, xs, ns, evs, sq, rx, wd, q⟩ => ?_, hm, F.kp, F.bindsN fun _ _ _ _ _ _ us hl => match us, hl with | [_], _ => rfl⟩
  subst evs
  have nd := scBag.nd
  have g : Gx (CxD P w K mg base nBag "_law_bag" (top 65) f cdv A outer s H) := gxOf B.sm hr gd
  have mt : Mt K G H (start nBag [.ref a]) [.sc (ns.map Dat.int), .no] := ⟨wd, .cons ⟨a, xs, rfl, sq, rx⟩ (.cons trivial .nil), sepEmpty rfl⟩
  obtain ⟨ys, ey, _⟩ := cutInts ns none (some ((63 : Nat) : Int))
  have ly : ys.length ≤ 63 := by
    have := congrArg List.length ey
    rw [List.length_map] at this
    rw [← this]
    unfold cutD
    rw [List.length_take]
    have h1 : HT.sIx (ns.map Dat.int).length (ns.map Dat.int).length (some ((63 : Nat) : Int)) ≤ 63 := by rw [HT.sIx_nat]; omega
    omega
  have run : Run (CxD P w K mg base nBag "_law_bag" (top 65) f cdv A outer s H) [.sc (ns.map Dat.int), .no] (defBody (top 65)) (NewOut fun b o => ∃ B : Bag, o = bgO B) := by
    refine Run.one (RunS.ret (Ev.newL (EvAP.ea (.cons .int (.cons .int (.cons .int (.cons (d := .list ((ys.map fun (i : Int) => if i < 0 then -i else i).map Dat.int)) ?_ .nil)))) ⟨(show (4 : Nat) ≤ sizeLine by decide), fun p => ⟨p, _, rfl, ⟨0, 1234567891, 0, ys.map fun (i : Int) => if i < 0 then -i else i, by rw [List.length_map]; exact ly⟩, rfl⟩⟩)))
    refine EvP.cast (EvP.comp (own := [("_law_cell", 1)]) (ds := ys.map Dat.int) (b := fun _ => true) (r := fun d => match d with | .int i => .int (if i < 0 then -i else i) | _ => .none) (f := fun d => [.sc (ns.map Dat.int), .im d]) rfl nd (blkOk_by (N := nBag) (sc := defScope (top 65)) (by decide +kernel))
      (.list (EvP.cast (EvP.sliceSc (i := 0) rfl EvOP.none_ (EvOP.some_ (k := ((63 : Nat) : Int)) .int)) (congrArg Dat.list ey))) (fun d hd s H C cl fp => AsDV.name (i := 1) nd) (fun d hd s H C cl fp => ?_) (fun d hd _ s H C cl fp => ?_) (by rw [List.length_map]; omega)) ?_
    · rfl
    · obtain ⟨o, _, rfl⟩ := List.mem_map.mp hd
      exact EvP.callB (fid := "abs") (.cons (.var (i := 1) rfl) .nil) CallD.abs (B.free _ (by decide))
    · rw [keptAll, List.map_map, List.map_map]; rfl
  refine run (start nBag [.ref a]) G H mt _ ⟨fun _ _ _ _ e => e.elim, fun _ _ _ _ e => e.elim, fun _ _ _ _ e => e.elim, fun rr δ' v σ' G' H' e m fr => ?_⟩
  obtain ⟨b, o, er, B2, eo⟩ := (show ∃ b o, rr = .ow b o ∧ ∃ B : Bag, o = bgO B from e)
  subst er eo
  obtain ⟨⟨ev, ok⟩, _⟩ := m.head
  cases ev
  refine q B2 b G' H' ok m.wd (fr.less fun z hz => ?_)
  rw [feet_cons]
  exact List.mem_append_left _ hz
end
end K94
end

/-! text KY -/
section
set_option Elab.async false
set_option autoImplicit false
set_option linter.all false
set_option maxRecDepth 100000
set_option maxHeartbeats 4000000
/-! equal data are equal, dicts too -/
namespace K94
open PySem PySem.Spec PyProof.Rows L2
section
variable {prog : Program} {w : World} {A : Around} {s : Shared} {κ : Type} [DecidableEq κ] {knd : HeapKind prog w κ} {a b : Addr} {xa xb : List (κ × Addr × Value)} {E : Value → Shared → Prop}
theorem atKeyIn {xs : List (κ × Addr × Value)} {k : κ} {p : Addr × Value} (h : atKey xs k = some p) : ∃ j : Nat, xs[j]? = some (k, p) := by
  unfold atKey at h
  obtain ⟨x, hx, e⟩ := Option.map_eq_some_iff.mp h
  obtain ⟨j, hj⟩ := List.getElem?_of_mem (List.mem_of_find?_eq_some hx)
  have hk : x.1 = k := of_decide_eq_true (List.find?_some (p := fun x : κ × Addr × Value => decide (x.1 = k)) hx)
  exact ⟨j, by rw [hj, ← hk, ← e]⟩
theorem sameTups {nm : String} {Q : Bool → Shared → Prop} (ya : (a == sysModules) = false) (yb : (b == sysModules) = false) (da : s.heap.DictOfH knd a xa) (db : s.heap.DictOfH knd b xb) (hr : knd.room A) (hl : xa.length = xb.length)
    (hits : ∀ x ∈ xa, ∃ p, atKey xb x.1 = some p ∧ SeqAt.EqIn prog w A s x.2.2 p.2 true) (q : Q true s) : wpAny (model prog w) A (Builtin.Dict.samePairs nm a b) Q E s := by
  obtain ⟨oa, ea, pa, ha, -, ca, la, ka, na⟩ := da
  obtain ⟨ob, eb, pb, hb, -, cb, lb, kb, nb⟩ := db
  have za := size_of_entries la
  have zb := size_of_entries lb
  unfold Builtin.Dict.samePairs Builtin.Dict.showsAll
  rw [ya, yb]
  refine wpAny_bind ?_; refine wpAny_pure ?_; refine wpAny_bind ?_; refine wpAny_pure ?_
  refine wpAny_bind ?_; refine wpAny_dictEntries ha ca ?_; try dsimp only
  refine wpAny_bind ?_; refine wpAny_dictEntries hb cb ?_; try dsimp only
  rw [if_neg (show ¬ ((ea.size != eb.size) = true) by rw [za, zb, hl]; simp)]
  refine wpAny_bind ?_; refine wpAny_dictEpoch ha ca ?_
  refine wpAny_bind ?_
  rw [Std.Legacy.Range.forIn_eq_forIn_range']; simp only [Std.Legacy.Range.size, Nat.sub_zero, Nat.add_sub_cancel, Nat.div_one]
  refine wpAny_forIn_list _ (fun rest t s' => s' = s ∧ t = (Option.none, ()) ∧ ∃ i, rest = List.range' i (ea.size - i)) _ ?_ ?_ _ _ ⟨rfl, rfl, 0, by simp⟩
  · rintro x rest t s' ⟨rfl, rfl, i, hi⟩
    have lt : i < ea.size := by
      rcases Nat.lt_or_ge i ea.size with z | z
      · exact z
      · rw [Nat.sub_eq_zero_of_le z] at hi; exact nomatch hi
    rw [show ea.size - i = (ea.size - (i + 1)) + 1 by omega, List.range'_succ] at hi
    injection hi with e1 e2
    subst e1
    refine wpAny_bind ?_; refine wpAny_dictEntries ha ca ?_; try dsimp only
    have lx : x < xa.length := by rw [← za]; exact lt
    have ex : ea[x]? = some (entryOfKey knd xa[x]) := by rw [entry_at la x, List.getElem?_eq_getElem lx]; rfl
    rw [ex]
    have mx : xa[x] ∈ xa := List.getElem_mem lx
    obtain ⟨p, hp, he⟩ := hits _ mx
    obtain ⟨j0, hj0⟩ := atKeyIn hp
    refine wpAny_bind ?_; refine wpAny_holding ?_
    refine wpAny_bind ?_
    refine wpAny_dictFind_heap (k := (xa[x]).1) hr (ka _ mx) hb cb lb kb nb (fun hno => absurd hj0 (hno j0 p)) fun j p' hj => ?_
    have hpp : p' = p := by
      have := atKey_of_get nb hj
      rw [hp] at this
      exact (Option.some.inj this).symm
    subst hpp
    try dsimp only
    refine wpAny_bind ?_; refine wpAny_dictEntries hb cb ?_; try dsimp only
    rw [entry_at lb j, hj]
    refine wpAny_holding ?_
    refine he _ _ ?_
    rw [if_neg (show ¬ ((!true) = true) by decide)]
    refine wpAny_bind ?_; refine wpAny_dictEpoch ha ca ?_
    rw [if_neg (show ¬ ((pa != pa) = true) by simp)]
    exact wpAny_pure ⟨rfl, rfl, x + 1, e2⟩
  · rintro t s' ⟨rfl, rfl, i, hi⟩
    exact wpAny_pure q
theorem eqTups {Q : Value → Shared → Prop} (ya : (a == sysModules) = false) (yb : (b == sysModules) = false) (da : s.heap.DictOfH knd a xa) (db : s.heap.DictOfH knd b xb) (hu : A.units < cLine) (hr : knd.room A.in1) (hl : xa.length = xb.length)
    (hits : ∀ x ∈ xa, ∃ p, atKey xb x.1 = some p ∧ SeqAt.EqIn prog w A.in1 s x.2.2 p.2 true) (q : Q (.bool true) s) : wpAny (model prog w) A (richCompare .Eq (.ref a) (.ref b)) Q E s := by
  refine wpAny_richCompare_same_room (T := "dict") (op := .Eq) da.typeIs db.typeIs PySem.F.slot_dict_eq ?_ hu
  refine wpAny_call_entry PySem.F.slot_dict_eq da.typeIs PySem.F.entry_dict_eq ?_ (PySem.F.args_dict_eq_2 _ _)
  show wpAny _ _ (Builtin.Dict.dictSlotArgs "__eq__" ⟨[.ref a, .ref b], []⟩ >>= _) _ _ s
  refine wpAny_bind ?_
  unfold Builtin.Dict.dictSlotArgs
  refine wpAny_bind ?_; refine wpAny_notOrdered_dict da.typeIs ?_
  show wpAny _ _ (pure (Value.ref a, Value.ref b)) _ _ s
  refine wpAny_pure ?_
  refine wpAny_bind ?_; refine wpAny_isInstance (T := "dict") db.typeIs PySem.F.sub_dict_dict ?_
  rw [if_neg (show ¬ ((!true) = true) by decide)]
  refine wpAny_bind ?_; refine wpAny_pure ?_; refine wpAny_bind ?_; refine wpAny_pure ?_
  refine wpAny_bind ?_
  refine sameTups ya yb da db hr hl hits ?_
  exact wpAny_pure ⟨_, rfl, (fun x => nomatch x), q⟩
end
end K94
end

/-! text KZ -/
section
set_option Elab.async false
set_option autoImplicit false
set_option linter.all false
set_option maxRecDepth 100000
set_option maxHeartbeats 4000000
/-! equal data are equal: the induction -/
namespace K94
open PySem PySem.Spec PyProof.Rows L2
theorem depthIn : ∀ {ds : List Dat} {d : Dat}, d ∈ ds → d.py.depth ≤ PyData.depthAll (pyAll ds)
  | [], _, h => absurd h List.not_mem_nil
  | e :: ds, d, h => by
    show _ ≤ max e.py.depth (PyData.depthAll (pyAll ds))
    rcases List.mem_cons.mp h with rfl | h
    · exact Nat.le_max_left _ _
    · exact Nat.le_trans (depthIn h) (Nat.le_max_right _ _)
theorem depthVal : ∀ {ds : List (Dat × Dat)} {p : Dat × Dat}, p ∈ ds → p.2.py.depth ≤ PyData.depthKv (pyPairs ds)
  | [], _, h => absurd h List.not_mem_nil
  | (k, v) :: ds, p, h => by
    show _ ≤ max (max k.py.depth v.py.depth) (PyData.depthKv (pyPairs ds))
    rcases List.mem_cons.mp h with rfl | h
    · exact Nat.le_trans (Nat.le_max_right _ _) (Nat.le_max_left _ _)
    · exact Nat.le_trans (depthVal h) (Nat.le_max_right _ _)
theorem dlook_mem : ∀ {ds : List (Dat × Dat)} {k : L2.Key} {d : Dat}, dlook ds k = some d → ∃ k', (k', d) ∈ ds
  | [], _, _, h => nomatch h
  | p :: r, k, d, h => by
    unfold dlook at h
    split at h
    · cases h; exact ⟨p.1, List.mem_cons_self⟩
    · obtain ⟨k', hk⟩ := dlook_mem h
      exact ⟨k', List.mem_cons_of_mem _ hk⟩
theorem dlookT_mem : ∀ {ds : List (Dat × Dat)} {k : List L2.Key} {d : Dat}, dlookT ds k = some d → ∃ k', (k', d) ∈ ds
  | [], _, _, h => nomatch h
  | p :: r, k, d, h => by
    unfold dlookT at h
    split at h
    · cases h; exact ⟨p.1, List.mem_cons_self⟩
    · obtain ⟨k', hk⟩ := dlookT_mem h
      exact ⟨k', List.mem_cons_of_mem _ hk⟩
theorem hitsAll {prog : Program} {w : World} {A : Around} {s : Shared} {κ : Type} [DecidableEq κ] {kb : List (κ × Value)} : ∀ r : List (κ × Value), (∀ p ∈ r, ∃ y, valueAt kb p.1 = some y ∧ SeqAt.EqIn prog w A s p.2 y true) → PySem.W.KeqHitsIn prog w A s kb r true
  | [], _ => .nil
  | (k, v) :: r, h => by
    obtain ⟨y, h1, h2⟩ := h (k, v) List.mem_cons_self
    exact .hit (e := true) (b := true) h1 h2 (hitsAll r fun p hp => h p (List.mem_cons_of_mem _ hp))
theorem relSome {v : V} {o : Option Value} (h : RelO (some v) o) : ∃ u, o = some u ∧ RelV v u := by
  cases o with
  | none => exact False.elim h
  | some u => exact ⟨u, rfl, h⟩
theorem relSome' {o : Option V} {u : Value} (h : RelO o (some u)) : ∃ v, o = some v ∧ RelV v u := by
  cases o with
  | none => exact False.elim h
  | some v => exact ⟨v, rfl, h⟩
section
variable {X : Cx} {pins : List (Addr × Obj)} {σ : SS} {G H : Hp} {s : Shared}
def RcAt (X : Cx) (G : Hp) (s : Shared) (n : Nat) : Prop := ∀ (d : Dat), d.py.depth ≤ n → ∀ (a b : Addr), Rp X.K G (.ref a) d → Rp X.K G (.ref b) d → ∀ (A : Around), A.units + n < cLine → ∀ (E Q : Value → Shared → Prop), Q (.bool true) s → wpAny (model X.prog X.w) A (richCompare .Eq (.ref a) (.ref b)) Q E s
theorem eqOf {n : Nat} (h : RcAt X G s n) {d : Dat} (hd : d.py.depth ≤ n) {x y : V} {u v : Value} (rx : Rp X.K G x d) (ry : Rp X.K G y d) (ru : RelV x u) (rv : RelV y v) {A : Around} (hu : A.units + n < cLine) : SeqAt.EqIn X.prog X.w A s u v true := by
  have refs : ∀ a b : Addr, x = .ref a → y = .ref b → SeqAt.EqIn X.prog X.w A s u v true := fun a b e1 e2 => by
    subst e1 e2
    obtain rfl : u = Value.ref a := ru
    obtain rfl : v = Value.ref b := rv
    by_cases e : a = b
    · subst e; exact (SeqAt.EqAt.same _).inModel _ _
    · exact SeqAt.EqIn.of_refs e fun E Q q => h d hd a b rx ry A hu E Q q
  cases rx with
  | non =>
    cases ry
    obtain rfl : u = Value.none := ru
    obtain rfl : v = Value.none := rv
    exact (SeqAt.EqAt.same _).inModel _ _
  | bl b =>
    cases ry
    obtain rfl : u = Value.bool b := ru
    obtain rfl : v = Value.bool b := rv
    exact (SeqAt.EqAt.same _).inModel _ _
  | int i =>
    cases ry
    obtain ⟨t, rfl⟩ := ru
    obtain ⟨t', rfl⟩ := rv
    have z := (SeqAt.EqAt.int_int (A := A) (s := s) i t i t').inModel X.prog X.w
    rwa [beq_self_eq_true] at z
  | str z =>
    cases ry
    obtain ⟨t, rfl⟩ := ru
    obtain ⟨t', rfl⟩ := rv
    have z := (SeqAt.EqAt.str_str (A := A) (s := s) z t z t').inModel X.prog X.w
    rwa [beq_self_eq_true] at z
  | lst h1 r1 => cases ry with | lst h2 r2 => exact refs _ _ rfl rfl
  | tup h1 r1 => cases ry with | tup h2 r2 => exact refs _ _ rfl rfl
  | ftup h1 n1 r1 => cases ry with | ftup h2 n2 r2 => exact refs _ _ rfl rfl
  | dk h1 r1 =>
    cases ry with
    | dk h2 r2 => exact refs _ _ rfl rfl
    | dt h2 n2 r2 => exact refs _ _ rfl rfl
  | dt h1 n1 r1 =>
    cases ry with
    | dk h2 r2 => exact refs _ _ rfl rfl
    | dt h2 n2 r2 => exact refs _ _ rfl rfl
theorem valsAt {xs : List V} {vs : List Value} (r : Vals xs vs) : ∀ {j : Nat} {v : Value}, vs[j]? = some v → ∃ x, xs[j]? = some x ∧ RelV x v := by
  intro j v h
  exact pairedGet r h
theorem seqItems {n : Nat} (ih : RcAt X G s n) {xs ys : List V} {ds : List Dat} {vs us : List Value} (r1 : RpA X.K G xs ds) (r2 : RpA X.K G ys ds) (v1 : Vals xs vs) (v2 : Vals ys us) (hd : ∀ d ∈ ds, d.py.depth ≤ n) {A : Around} (hu : A.units + n < cLine) :
    ∀ j (h1 : j < vs.toArray.size) (h2 : j < us.toArray.size), SeqAt.EqIn X.prog X.w A s vs.toArray[j] us.toArray[j] true := fun j h1 h2 => by
  have e1 : vs[j]? = some vs.toArray[j] := by rw [List.getElem_toArray]; exact List.getElem?_eq_getElem _
  have e2 : us[j]? = some us.toArray[j] := by rw [List.getElem_toArray]; exact List.getElem?_eq_getElem _
  obtain ⟨x, hx, rx⟩ := valsAt v1 e1
  obtain ⟨y, hy, ry⟩ := valsAt v2 e2
  obtain ⟨d, hd1, p1⟩ := r1.get hx
  obtain ⟨d', hd2, p2⟩ := r2.get hy
  rw [hd1] at hd2
  cases hd2
  exact eqOf ih (hd d (List.mem_of_getElem? hd1)) p1 p2 rx ry hu
theorem sizesEq {xs ys : List V} {ds : List Dat} {vs us : List Value} (r1 : RpA X.K G xs ds) (r2 : RpA X.K G ys ds) (v1 : Vals xs vs) (v2 : Vals ys us) : vs.toArray.size = us.toArray.size := by
  have a1 := r1.length
  have a2 := r2.length
  have a3 := Paired.length v1
  have a4 := Paired.length v2
  show vs.length = us.length
  omega
theorem allTt (n : Nat) : ((List.range n).all fun _ => true) = true := List.all_eq_true.mpr fun _ _ => rfl
theorem rcAt (I : Inv X pins σ H s) (w : Wd G H) : ∀ n : Nat, RcAt X G s n
  | 0, d, hd, a, b, ra, rb, A, hu, E, Q, q => by
    cases ra with
    | lst h r => exact absurd hd (Nat.not_succ_le_zero _)
    | tup h r => exact absurd hd (Nat.not_succ_le_zero _)
    | ftup h m r => exact absurd hd (Nat.not_succ_le_zero _)
    | dk h r => exact absurd hd (Nat.not_succ_le_zero _)
    | dt h m r => exact absurd hd (Nat.not_succ_le_zero _)
  | n + 1, d, hd, a, b, ra, rb, A, hu, E, Q, q => by
    have ih := rcAt I w n
    have hu1 : A.in1.units + n < cLine := by show A.units + 1 + n < cLine; omega
    cases ra with
    | lst h1 r1 =>
      cases rb with
      | lst h2 r2 =>
        obtain ⟨i1, v1, l1, _⟩ := I.list (SqL.of (w.lstH h1))
        obtain ⟨i2, v2, l2, _⟩ := I.list (SqL.of (w.lstH h2))
        refine SeqAt.rcIn_lists (e := fun _ => true) l1.isList l2.isList (sizesEq r1 r2 v1 v2) (by omega) (seqItems ih r1 r2 v1 v2 (fun d hd' => ?_) hu1) ?_
        · exact Nat.le_trans (depthIn hd') (Nat.le_of_succ_le_succ hd)
        · rw [allTt]; exact q
    | tup h1 r1 =>
      cases rb with
      | tup h2 r2 =>
        obtain ⟨i1, v1, l1, _⟩ := I.tuple (SqT.of (w.tupH h1))
        obtain ⟨i2, v2, l2, _⟩ := I.tuple (SqT.of (w.tupH h2))
        refine SeqAt.rcIn_tuples (e := fun _ => true) l1 l2 (by omega) (seqItems ih r1 r2 v1 v2 (fun d hd' => ?_) hu1) ?_
        · exact Nat.le_trans (depthIn hd') (Nat.le_of_succ_le_succ hd)
        · rw [allTt, sizesEq r1 r2 v1 v2, beq_self_eq_true]; exact q
    | ftup h1 m1 r1 =>
      cases rb with
      | ftup h2 m2 r2 =>
        obtain ⟨i1, v1, l1, _⟩ := I.tuple (.inl (w.rd2 (.inr ⟨_, h1⟩)))
        obtain ⟨i2, v2, l2, _⟩ := I.tuple (.inl (w.rd2 (.inr ⟨_, h2⟩)))
        refine SeqAt.rcIn_tuples (e := fun _ => true) l1 l2 (by omega) (seqItems ih r1 r2 v1 v2 (fun d hd' => ?_) hu1) ?_
        · exact Nat.le_trans (depthIn hd') (Nat.le_of_succ_le_succ hd)
        · rw [allTt, sizesEq r1 r2 v1 v2, beq_self_eq_true]; exact q
    | dk h1 r1 =>
      cases rb with
      | dk h2 r2 =>
        obtain ⟨_, y1, c1, k1, o1⟩ := dk_rd I.hok (w.rd h1)
        obtain ⟨_, y2, c2, k2, o2⟩ := dk_rd I.hok (w.rd h2)
        have el : c1.length = c2.length := by rw [← k1.length, ← k2.length, r1.length, r2.length]
        obtain ⟨_, _, _, _, _, _, _, _, n1⟩ := id o1
        refine PySem.W.keq_eqIn y1 y2 o1 o2 (by omega) (fun _ => hitsAll _ fun p hp => ?_) ?_
        · obtain ⟨j, hj⟩ := List.getElem?_of_mem hp
          have e1 : valueAt c1 p.1 = some p.2 := valueAt_of_get n1 hj
          have z1 := k1.val p.1
          rw [e1] at z1
          obtain ⟨x, ex, rx⟩ := relSome' z1
          rcases r1.look p.1 with ⟨x', d', f1, f2, f3⟩ | ⟨f1, _⟩
          · rw [ex] at f1; cases f1
            rcases r2.look p.1 with ⟨y', d2, g1, g2, g3⟩ | ⟨_, g2⟩
            · rw [f2] at g2; cases g2
              have z2 := k2.val p.1
              rw [g1] at z2
              obtain ⟨u, eu, ru⟩ := relSome z2
              obtain ⟨kk, hm⟩ := dlook_mem f2
              exact ⟨u, eu, eqOf ih (Nat.le_trans (depthVal hm) (Nat.le_of_succ_le_succ hd)) f3 g3 rx ru hu1⟩
            · rw [f2] at g2; exact nomatch g2
          · rw [ex] at f1; exact nomatch f1
        · rw [el, beq_self_eq_true]; exact q
      | dt h2 m2 r2 =>
        cases r2 with
        | nil => exact absurd rfl m2
        | cons p2 t2 =>
          generalize hds : (Dat.tuple _, _) :: _ = ds at r1
          cases r1 with
          | nil => exact nomatch hds
          | @cons k v vs d ds2 _ _ => exact absurd (congrArg Prod.fst (List.cons.inj hds).1).symm kD_ne_tK
    | dt h1 m1 r1 =>
      cases rb with
      | dk h2 r2 =>
        cases r1 with
        | nil => exact absurd rfl m1
        | cons p2 t2 =>
          generalize hds : (Dat.tuple _, _) :: _ = ds at r2
          cases r2 with
          | nil => exact nomatch hds
          | @cons k v vs d ds2 _ _ => exact absurd (congrArg Prod.fst (List.cons.inj hds).1).symm kD_ne_tK
      | dt h2 m2 r2 =>
        obtain ⟨_, y1, c1, k1, o1⟩ := dt_rd I.hok (w.rd h1)
        obtain ⟨_, y2, c2, k2, o2⟩ := dt_rd I.hok (w.rd h2)
        have el : c1.length = c2.length := by rw [← Paired.length k1, ← Paired.length k2, r1.length, r2.length]
        obtain ⟨_, _, _, _, _, _, _, _, n1⟩ := id o1
        refine eqTups y1 y2 o1 o2 (by omega) (show A.in1.units < cLine by omega) el (fun p hp => ?_) q
        obtain ⟨j, hj⟩ := List.getElem?_of_mem hp
        have e1 : atKey c1 p.1 = some p.2 := atKey_of_get n1 hj
        have z1 := k1.val p.1
        rw [e1] at z1
        obtain ⟨x, ex, rx⟩ := relSome' z1
        rcases r1.look p.1 with ⟨x', d', f1, f2, f3⟩ | ⟨f1, _⟩
        · rw [ex] at f1; cases f1
          rcases r2.look p.1 with ⟨y', d2, g1, g2, g3⟩ | ⟨_, g2⟩
          · rw [f2] at g2; cases g2
            have z2 := k2.val p.1
            rw [g1] at z2
            obtain ⟨u, eu, ru⟩ := relSome z2
            obtain ⟨pp, ep, rfl⟩ := Option.map_eq_some_iff.mp eu
            obtain ⟨kk, hm⟩ := dlookT_mem f2
            exact ⟨pp, ep, eqOf ih (Nat.le_trans (depthVal hm) (Nat.le_of_succ_le_succ hd)) f3 g3 rx ru hu1⟩
          · rw [f2] at g2; exact nomatch g2
        · rw [ex] at f1; exact nomatch f1
def refD : Dat → Bool
  | .list _ => true
  | .tuple _ => true
  | .ftup _ => true
  | .dict _ => true
  | _ => false
theorem Rp.isRef {K : PySem.W.Frag} {G : Hp} {v : V} {d : Dat} (r : Rp K G v d) (h : refD d = true) : ∃ a, v = V.ref a := by
  cases r with
  | non => exact nomatch h
  | bl => exact nomatch h
  | int => exact nomatch h
  | str => exact nomatch h
  | lst => exact ⟨_, rfl⟩
  | tup => exact ⟨_, rfl⟩
  | ftup => exact ⟨_, rfl⟩
  | dk => exact ⟨_, rfl⟩
  | dt => exact ⟨_, rfl⟩
theorem Cmp2.eqRefl (g : Gx X) {d : Dat} (h : refD d = true) (hd : d.py.depth ≤ 100) : Cmp2 X (compareOp .Eq) d d true := fun G H x y Q w rx ry q pins s σ v u I rv ru => by
  obtain ⟨a, rfl⟩ := rx.isRef h
  obtain ⟨b, rfl⟩ := ry.isRef h
  obtain rfl : v = Value.ref a := rv
  obtain rfl : u = Value.ref b := ru
  exact rcAt I w 100 d hd a b rx ry X.A (by have := g.hu; omega) _ _ ⟨.bl true, H, I, rfl, q⟩
end
end K94
end

/-! text ZL -/
section
set_option Elab.async false
set_option autoImplicit false
set_option linter.all false
set_option maxRecDepth 100000
set_option maxHeartbeats 4000000
/-! list(zip(a, b)) of two lists -/
namespace K94
open PySem PySem.Spec PyProof.Rows L2
theorem zipLen0 : typeLookup (.type "zip") "__len__" = pure Option.none := am_miss_of_fast (by decide +kernel)
theorem zipHint0 : typeLookup (.type "zip") "__length_hint__" = pure Option.none := am_miss_of_fast (by decide +kernel)
structure ZSt (h : Heap) (S z TI TO i1 i2 l1 l2 : Addr) (xs ys : Array Value) (i : Nat) : Prop where
  pair : IsPair h TI (.ref i1) (.ref i2)
  it1 : h.IsListIter i1 l1 i
  it2 : h.IsListIter i2 l2 i
  li1 : h.IsList l1 xs
  li2 : h.IsList l2 ys
  zz : (IsZip h z TI TO .none ∧ ∃ a b, IsPair h TO a b) ∨ ∃ T f oT, IsZipHeld h z TI TO T f ∧ h.get? T = some oT ∧ T ≠ z ∧ T ≠ i1 ∧ T ≠ i2 ∧ T ≠ S
structure ZG (xs ys : Array Value) (lo : Addr) (h : Heap) (as : List Addr) : Prop where
  rise : as.Pairwise (· < ·)
  above : ∀ a ∈ as, lo ≤ a
  pairs : ∀ (j : Nat) (a : Addr), as[j]? = some a → ∃ x y, xs[j]? = some x ∧ ys[j]? = some y ∧ IsPair h a x y
section
variable {prog : Program} {w : World} {A : Around} {s : Shared} {S z TI TO i1 i2 l1 l2 lo : Addr} {xs ys : Array Value}
theorem ZSt.type {h : Heap} {i : Nat} (t : ZSt h S z TI TO i1 i2 l1 l2 xs ys i) : ∃ o, h.get? z = some o ∧ o.cls = .type "zip" := by
  rcases t.zz with ⟨a, _⟩ | ⟨T, f, oT, a, _⟩
  · exact ⟨_, a, rfl⟩
  · exact ⟨_, a, rfl⟩
theorem ZSt.keep {h h' : Heap} {i : Nat} (t : ZSt h S z TI TO i1 i2 l1 l2 xs ys i) (nS : S ∉ [z, TI, TO, i1, i2, l1, l2]) (k : ∀ b o, b ≠ S → h.get? b = some o → h'.get? b = some o) : ZSt h' S z TI TO i1 i2 l1 l2 xs ys i := by
  simp only [List.mem_cons, List.not_mem_nil, or_false, not_or] at nS
  obtain ⟨n1, n2, n3, n4, n5, n6, n7⟩ := nS
  refine ⟨k _ _ (Ne.symm n2) t.pair, t.it1.at fun o e => k _ o (Ne.symm n4) e, t.it2.at fun o e => k _ o (Ne.symm n5) e, t.li1.at fun o e => k _ o (Ne.symm n6) e, t.li2.at fun o e => k _ o (Ne.symm n7) e, ?_⟩
  rcases t.zz with ⟨a, b, c, d⟩ | ⟨T, f, oT, a, b, r1, r2, r3, r4⟩
  · exact .inl ⟨k _ _ (Ne.symm n1) a, b, c, k _ _ (Ne.symm n3) d⟩
  · exact .inr ⟨T, f, oT, k _ _ (Ne.symm n1) a, k _ _ r4 b, r1, r2, r3, r4⟩
theorem zNext {i : Nat} {x y : Value} {E : Value → Shared → Prop} {Q : Option Value → Shared → Prop} (D : ZipApart z TI TO i1 i2 l1 l2) (t : ZSt s.heap S z TI TO i1 i2 l1 l2 xs ys i) (hS : S < s.heap.objs.size) (ex : xs[i]? = some x) (ey : ys[i]? = some y)
    (q : ∀ h', ZSt h' S z TI TO i1 i2 l1 l2 xs ys (i + 1) → IsPair h' s.heap.objs.size x y → h'.objs.size = s.heap.objs.size + 1 → (∀ b o, b ∉ [z, TO, i1, i2] → s.heap.get? b = some o → h'.get? b = some o) → Q (some (.ref s.heap.objs.size)) { s with heap := h' }) :
    wpAny (model prog w) A (pyNext (.ref z)) Q E s := by
  have new : ∀ {c : Addr} {o : Obj}, s.heap.get? c = some o → s.heap.objs.size ≠ c := fun e => Nat.ne_of_gt (Heap.lt_size e)
  have m1 : s.heap.objs.size ≠ i1 := let ⟨_, e, _⟩ := t.it1; new e
  have m2 : s.heap.objs.size ≠ i2 := let ⟨_, e, _⟩ := t.it2; new e
  rcases t.zz with ⟨hz, a, b, hO⟩ | ⟨T, f, oT, hz, hT, r1, r2, r3, r4⟩
  · refine wpAny_pyNext_zip_item D hz t.pair hO t.it1 t.it2 t.li1 t.li2 ex ey fun h' a1 a2 a3 a4 a5 a6 k => ?_
    refine q h' ⟨k _ _ D.TIz D.TITO D.TIi1 D.TIi2 t.pair, a3, a4, t.li1.at fun o e => k _ o D.l1z D.l1TO D.l1i1 D.l1i2 e, t.li2.at fun o e => k _ o D.l2z D.l2TO D.l2i1 D.l2i2 e, .inr ⟨_, false, _, a1, a5, new hz, m1, m2, Nat.ne_of_gt hS⟩⟩ a5 a6 fun b o hb e => ?_
    exact k b o (fun v => hb (by simp [v])) (fun v => hb (by simp [v])) (fun v => hb (by simp [v])) (fun v => hb (by simp [v])) e
  · refine wpAny_pyNext_zip_item_held D hz hT t.pair t.it1 t.it2 t.li1 t.li2 ex ey fun h' a1 a3 a4 a5 a6 k => ?_
    refine q h' ⟨k _ _ D.TIz D.TIi1 D.TIi2 t.pair, a3, a4, t.li1.at fun o e => k _ o D.l1z D.l1i1 D.l1i2 e, t.li2.at fun o e => k _ o D.l2z D.l2i1 D.l2i2 e, .inr ⟨T, true, oT, a1, k _ _ r1 r2 r3 hT, r1, r2, r3, r4⟩⟩ a5 a6 fun b o hb e => ?_
    exact k b o (fun v => hb (by simp [v])) (fun v => hb (by simp [v])) (fun v => hb (by simp [v])) e
theorem zStop {i : Nat} {E : Value → Shared → Prop} {Q : Option Value → Shared → Prop} (hh : A.handled = Option.none) (D : ZipApart z TI TO i1 i2 l1 l2) (t : ZSt s.heap S z TI TO i1 i2 l1 l2 xs ys i) (he : xs[i]? = Option.none ∨ ys[i]? = Option.none)
    (q : ∀ h', (∀ b o, b ∉ [z, TO, i1, i2] → s.heap.get? b = some o → h'.get? b = some o) → Q Option.none { s with heap := h' }) :
    wpAny (model prog w) A (pyNext (.ref z)) Q E s := by
  rcases t.zz with ⟨hz, a, b, hO⟩ | ⟨T, f, oT, hz, hT, r1, r2, r3, r4⟩
  · refine wpAny_pyNext_zip_end hh D hz t.pair hO t.it1 t.it2 t.li1 t.li2 he fun h' k => q h' fun b o hb e => ?_
    exact k b o (fun v => hb (by simp [v])) (fun v => hb (by simp [v])) (fun v => hb (by simp [v])) (fun v => hb (by simp [v])) e
  · refine wpAny_pyNext_zip_end_held hh D hz hT t.pair t.it1 t.it2 t.li1 t.li2 he fun h' k => q h' fun b o hb e => ?_
    exact k b o (fun v => hb (by simp [v])) (fun v => hb (by simp [v])) (fun v => hb (by simp [v])) e
abbrev lsO (acc : Array Value) (c : Nat) : Obj := { cls := .type "list", dict := Option.none, data := .seq acc c, slots := #[] }
theorem zLoop {R : Result → Shared → Prop} (hh : A.handled = Option.none) (D : ZipApart z TI TO i1 i2 l1 l2) (nS : S ∉ [z, TI, TO, i1, i2, l1, l2]) (lw : ∀ b ∈ [S, z, TO, i1, i2], b < lo) (hn : min xs.size ys.size ≤ 1000) (res : Value) {h0 : Heap}
    (hR : ∀ h' tk acc c as, (∀ b o, b ∉ [S, z, TO, i1, i2] → h0.get? b = some o → h'.get? b = some o) → h'.get? S = some (lsO acc c) → as.length = min xs.size ys.size → ZG xs ys lo h' as → acc.toList = as.map Value.ref → R (.ok (.ret res)) { s with heap := h', toks := tk }) :
    ∀ (k i : Nat) (h : Heap) (tk c : Nat) (acc : Array Value) (as : List Addr), min xs.size ys.size - i = k → i ≤ min xs.size ys.size → ZSt h S z TI TO i1 i2 l1 l2 xs ys i → (∀ b o, b ∉ [S, z, TO, i1, i2] → h0.get? b = some o → h.get? b = some o) → h.get? S = some (lsO acc c) →
      acc.toList = as.map Value.ref → as.length = i → ZG xs ys lo h as → lo ≤ h.objs.size → codeAny (model prog w) A (.builtin "list.extend.loop" ⟨[.ref S, .ref z, res], []⟩) R { s with heap := h, toks := tk }
  | 0, i, h, tk, c, acc, as, hk, hi, t, keep, hS, ha, hl, hG, hlo => by
    have he : xs[i]? = Option.none ∨ ys[i]? = Option.none := by
      rcases Nat.le_total xs.size ys.size with u | u
      · exact .inl (Array.getElem?_eq_none (by omega))
      · exact .inr (Array.getElem?_eq_none (by omega))
    refine codeAny_builtin PySem.F.entry_extend_loop ?_
    rw [Around.under_plainId PySem.F.plain_extend_loop _]
    show wpAny _ A.in1 (pyNext (.ref z) >>= _) _ _ _
    refine wpAny_bind ?_; refine zStop (s := { s with heap := h, toks := tk }) (A := A.in1) hh D t he fun h' k => ?_
    have sS : S ∉ [z, TO, i1, i2] := fun m => nS (by simp only [List.mem_cons, List.not_mem_nil, or_false] at m ⊢; rcases m with m | m | m | m <;> simp [m])
    refine wpAny_pure (hR h' tk acc c as (fun b o hb e => k b o (fun m => hb (List.mem_cons_of_mem _ m)) (keep b o hb e)) (k S _ sS hS) (by omega) ⟨hG.rise, hG.above, fun j a hj => ?_⟩ ha)
    obtain ⟨x, y, e1, e2, e3⟩ := hG.pairs j a hj
    refine ⟨x, y, e1, e2, k a _ (fun m => ?_) e3⟩
    exact absurd (lw a (List.mem_cons_of_mem _ m)) (Nat.not_lt.mpr (hG.above a (List.mem_of_getElem? hj)))
  | k + 1, i, h, tk, c, acc, as, hk, hi, t, keep, hS, ha, hl, hG, hlo => by
    have ix : i < xs.size := by omega
    have iy : i < ys.size := by omega
    have sz : acc.size = i := by rw [← Array.length_toList, ha, List.length_map, hl]
    have sS : S ∉ [z, TO, i1, i2] := fun m => nS (by simp only [List.mem_cons, List.not_mem_nil, or_false] at m ⊢; rcases m with m | m | m | m <;> simp [m])
    have hSl : S < h.objs.size := Heap.lt_size hS
    refine codeAny_builtin PySem.F.entry_extend_loop ?_
    rw [Around.under_plainId PySem.F.plain_extend_loop _]
    show wpAny _ A.in1 (pyNext (.ref z) >>= _) _ _ _
    refine wpAny_bind ?_; refine zNext (s := { s with heap := h, toks := tk }) (A := A.in1) D t hSl (Array.getElem?_eq_getElem ix) (Array.getElem?_eq_getElem iy) fun h' t' hp hz k' => ?_
    dsimp only at hp hz k' ⊢
    have hS' := k' S _ sS hS
    have up : ∀ b o, b ≠ S → h'.get? b = some o → (h'.update S (Obj.mapSeq (·.push (Value.ref h.objs.size)))).get? b = some o := fun b o hb e => (Heap.get?_update_other _ _ (Ne.symm hb)).trans e
    have self := Heap.get?_update_self (Obj.mapSeq (·.push (Value.ref h.objs.size))) hS' rfl
    show wpAny _ A.in1 (updateSeq S (·.push (Value.ref h.objs.size)) >>= _) _ _ _
    have t1000 : (1001 : Nat) ≤ sizeLine := by decide
    refine wpAny_bind ?_
    refine wpAny_updateSeq hS' rfl (wpAny_pure ⟨plainId_quiet PySem.F.plain_extend_loop _, ?_⟩) (by rw [sz]; omega) (by show (acc.push (Value.ref h.objs.size)).size ≤ sizeLine + 1; rw [Array.size_push, sz]; omega)
    refine zLoop hh D nS lw hn res hR k (i + 1) _ tk _ (acc.push (Value.ref h.objs.size)) (as ++ [h.objs.size]) (by omega) (by omega) (t'.keep nS up) (fun b o hb e => up b o (fun v => hb (by simp [v])) (k' b o (fun m => hb (List.mem_cons_of_mem _ m)) (keep b o hb e))) self (by rw [Array.toList_push, ha, List.map_append]; rfl) (by rw [List.length_append, hl]; rfl) ⟨?_, ?_, ?_⟩ ?_
    · refine List.pairwise_append.mpr ⟨hG.rise, List.pairwise_singleton _ _, fun a ha' b hb => ?_⟩
      rw [List.mem_singleton.mp hb]
      obtain ⟨j, hj⟩ := List.getElem?_of_mem ha'
      obtain ⟨_, _, _, _, e⟩ := hG.pairs j a hj
      exact Heap.lt_size e
    · intro a ha'
      rcases List.mem_append.mp ha' with m | m
      · exact hG.above a m
      · rw [List.mem_singleton.mp m]; exact hlo
    · intro j b hj
      rcases Nat.lt_trichotomy j as.length with u | u | u
      · rw [List.getElem?_append_left u] at hj
        obtain ⟨x, y, e1, e2, e3⟩ := hG.pairs j b hj
        have hb := hG.above b (List.mem_of_getElem? hj)
        refine ⟨x, y, e1, e2, up b _ (fun v => ?_) (k' b _ (fun m => ?_) e3)⟩
        · exact absurd (lw b (by rw [v]; exact List.mem_cons_self)) (Nat.not_lt.mpr hb)
        · exact absurd (lw b (List.mem_cons_of_mem _ m)) (Nat.not_lt.mpr hb)
      · subst u
        have hb : h.objs.size = b := by simpa using hj
        subst hb
        exact ⟨_, _, by rw [hl]; exact Array.getElem?_eq_getElem ix, by rw [hl]; exact Array.getElem?_eq_getElem iy, up _ _ (Nat.ne_of_gt hSl) hp⟩
      · rw [List.getElem?_eq_none (by rw [List.length_append, List.length_singleton]; omega)] at hj
        cases hj
    · exact Nat.le_trans hlo (Nat.le_of_lt (Heap.lt_size (up _ _ (Nat.ne_of_gt hSl) hp)))
theorem zExtend {R : Result → Shared → Prop} (hh : A.handled = Option.none) (D : ZipApart z TI TO i1 i2 l1 l2) (nS : S ∉ [z, TI, TO, i1, i2, l1, l2]) (hn : min xs.size ys.size ≤ 1000) (res : Value) (c0 : Nat) (t : ZSt s.heap S z TI TO i1 i2 l1 l2 xs ys 0) (hz : IsZip s.heap z TI TO .none) (hO : ∃ a b, IsPair s.heap TO a b) (hS : s.heap.get? S = some (lsO #[] c0))
    (hR : ∀ h' tk acc c as, (∀ b o, b ∉ [S, z, TO, i1, i2] → s.heap.get? b = some o → h'.get? b = some o) → h'.get? S = some (lsO acc c) → as.length = min xs.size ys.size → ZG xs ys s.heap.objs.size h' as → acc.toList = as.map Value.ref → R (.ok (.ret res)) { s with heap := h', toks := tk }) :
    wpAny (model prog w) A.in1 (Builtin.List.listExtendWith (.ref S) (.ref z) res)
      (fun fin s' => match fin with | .done f => R (.ok f) s' | .again c' => c'.quiet = true ∧ codeAny (model prog w) A c' R s') (fun e s' => R (.error e) s') s := by
  have Sz : S ≠ z := fun e => nS (by rw [e]; exact List.mem_cons_self)
  have ty : s.TypeIs (.ref z) "zip" := t.type
  unfold Builtin.List.listExtendWith
  refine wpAny_bind ?_; refine wpAny_typeOf ty ?_
  have q1 : Builtin.List.listSameRef (.ref S) (.ref z) = false := by simp [Builtin.List.listSameRef, Sz]
  have q2 : (Value.type "zip" == Value.type "list") = false := by decide
  have q3 : (Value.type "zip" == Value.type "tuple") = false := by decide
  simp only [q1, q2, q3, Bool.or_false, Bool.false_eq_true, if_false]
  refine wpAny_bind ?_; refine wpAny_pyIter_zip hz ?_
  refine wpAny_bind ?_; refine wpAny_holding ?_
  unfold Builtin.List.listLengthHint
  refine wpAny_bind ?_; refine wpAny_specialOf ty zipLen0 ?_
  show wpAny _ _ (specialOf (Value.ref z) (Str.ofString "__length_hint__") >>= _) _ _ _
  refine wpAny_bind ?_; refine wpAny_specialOf ty zipHint0 ?_
  refine wpAny_pure ?_
  show wpAny _ _ (rule "list.extend.makes-room" >>= fun _ => Builtin.List.listTouch (.ref S) >>= fun _ => again (.builtin "list.extend.loop" ⟨[.ref S, .ref z, res], []⟩)) _ _ _
  refine wpAny_bind ?_; refine wpAny_rule ?_
  refine wpAny_bind ?_
  show wpAny _ _ (updateSeq S (·.push .none) >>= fun _ => updateSeq S (·.pop)) _ _ _
  refine wpAny_bind ?_; refine wpAny_updateSeq hS rfl ?_
  have e2 := Heap.get?_update_self (Obj.mapSeq (·.push Value.none)) hS rfl
  refine wpAny_updateSeq (hz := by seq_fits) e2 rfl ?_
  have e3 := Heap.get?_update_self (Obj.mapSeq (·.pop)) e2 rfl
  have oth : ∀ b o, b ≠ S → s.heap.get? b = some o → ((s.heap.update S (Obj.mapSeq (·.push Value.none))).update S (Obj.mapSeq (·.pop))).get? b = some o := fun b o hb e => (Heap.get?_update_other _ _ (Ne.symm hb)).trans ((Heap.get?_update_other _ _ (Ne.symm hb)).trans e)
  have lt : ∀ b ∈ [S, z, TO, i1, i2], b < s.heap.objs.size := fun b hb => by
    simp only [List.mem_cons, List.not_mem_nil, or_false] at hb
    rcases hb with v | v | v | v | v
    · rw [v]; exact Heap.lt_size hS
    · rw [v]; exact Heap.lt_size hz
    · rw [v]; obtain ⟨_, _, u⟩ := hO; exact Heap.lt_size u
    · rw [v]; obtain ⟨_, e, _⟩ := t.it1; exact Heap.lt_size e
    · rw [v]; obtain ⟨_, e, _⟩ := t.it2; exact Heap.lt_size e
  refine wpAny_pure ⟨plainId_quiet PySem.F.plain_extend_loop _, zLoop (h0 := s.heap) hh D nS lt hn res hR (min xs.size ys.size) 0 _ _ _ _ [] (Nat.sub_zero _) (Nat.zero_le _) (t.keep nS oth) (fun b o hb e => oth b o (fun v => hb (by simp [v])) e) e3 rfl rfl ⟨List.Pairwise.nil, (fun _ m => nomatch m), (fun j a hj => by simp at hj)⟩ ?_⟩
  simp
end
end K94
end

/-! text ZM -/
section
set_option Elab.async false
set_option autoImplicit false
set_option linter.all false
set_option maxRecDepth 100000
set_option maxHeartbeats 4000000
/-! list(zip(a, b)): the call, the value -/
namespace K94
open PySem PySem.Spec PyProof.Rows L2
section
variable {prog : Program} {w : World} {A : Around} {s : Shared} {E : Value → Shared → Prop} {z TI TO i1 i2 l1 l2 : Addr} {xs ys : Array Value}
theorem zInit {S : Addr} {R : Result → Shared → Prop} (hh : A.handled = Option.none) (D : ZipApart z TI TO i1 i2 l1 l2) (nS : S ∉ [z, TI, TO, i1, i2, l1, l2]) (hn : min xs.size ys.size ≤ 1000) (t : ZSt s.heap S z TI TO i1 i2 l1 l2 xs ys 0) (hz : IsZip s.heap z TI TO .none) (hO : ∃ a b, IsPair s.heap TO a b) (hS : s.heap.get? S = some (lsO #[] 0))
    (hR : ∀ h' tk acc c as, (∀ b o, b ∉ [S, z, TO, i1, i2] → s.heap.get? b = some o → h'.get? b = some o) → h'.get? S = some (lsO acc c) → as.length = min xs.size ys.size → ZG xs ys s.heap.objs.size h' as → acc.toList = as.map Value.ref → R (.ok (.ret .none)) { s with heap := h', toks := tk }) :
    wpAny (model prog w) A.in1 (Builtin.«list.__init__» ⟨[.ref S, .ref z], []⟩)
      (fun fin s' => match fin with | .done f => R (.ok f) s' | .again c' => c'.quiet = true ∧ codeAny (model prog w) A c' R s') (fun e s' => R (.error e) s') s := by
  show wpAny _ A.in1 (do let old ← Builtin.List.listItems (.ref S); Builtin.List.listUpdate (.ref S) (fun _ => #[]); letGo old.toList.reverse; Builtin.List.listExtendWith (.ref S) (.ref z) .none) _ _ s
  refine wpAny_bind ?_
  unfold Builtin.List.listItems
  refine wpAny_bind ?_; refine wpAny_seqItems hS rfl (wpAny_pure ?_)
  show wpAny _ A.in1 (updateSeq S (fun _ => #[]) >>= fun _ => letGo (#[] : Array Value).toList.reverse >>= fun _ => Builtin.List.listExtendWith (.ref S) (.ref z) .none) _ _ s
  refine wpAny_bind ?_; refine wpAny_updateSeq hS rfl ?_
  have e2 := Heap.get?_update_self (Obj.mapSeq (fun _ => (#[] : Array Value))) hS rfl
  have oth : ∀ b o, b ≠ S → s.heap.get? b = some o → (s.heap.update S (Obj.mapSeq (fun _ => (#[] : Array Value)))).get? b = some o := fun b o hb e => (Heap.get?_update_other _ _ (Ne.symm hb)).trans e
  have Sz : S ≠ z := fun e => nS (by rw [e]; exact List.mem_cons_self)
  have STO : S ≠ TO := fun e => nS (by rw [e]; simp)
  refine wpAny_bind ?_; refine wpAny_letGo ?_
  obtain ⟨oa, ob, ho⟩ := hO
  refine zExtend hh D nS hn .none _ (t.keep nS oth) (oth _ _ (Ne.symm Sz) hz) ⟨oa, ob, oth _ _ (Ne.symm STO) ho⟩ e2 fun h' tk acc c as k hS' hl hG ha => ?_
  refine hR h' tk acc c as (fun b o hb e => k b o hb (oth b o (fun v => hb (by rw [v]; exact List.mem_cons_self)) e)) hS' hl ⟨hG.rise, fun a m => Nat.le_trans (Nat.le_of_eq (by simp)) (hG.above a m), hG.pairs⟩ ha
theorem callListZip {Q : Value → Shared → Prop} (hh : A.handled = Option.none) (D : ZipApart z TI TO i1 i2 l1 l2) (hn : min xs.size ys.size ≤ 1000) (hz : IsZip s.heap z TI TO .none) (hp : IsPair s.heap TI (.ref i1) (.ref i2)) (hO : ∃ a b, IsPair s.heap TO a b) (h1 : s.heap.IsListIter i1 l1 0) (h2 : s.heap.IsListIter i2 l2 0) (g1 : s.heap.IsList l1 xs) (g2 : s.heap.IsList l2 ys)
    (q : ∀ h' tk acc c as, (∀ b o, b ∉ [z, TO, i1, i2] → s.heap.get? b = some o → h'.get? b = some o) → h'.get? s.heap.objs.size = some (lsO acc c) → as.length = min xs.size ys.size → ZG xs ys (s.heap.objs.size + 1) h' as → acc.toList = as.map Value.ref → Q (.ref s.heap.objs.size) { s with heap := h', toks := tk }) :
    wpAny (model prog w) A (call (.type "list") [.ref z]) Q E s := by
  have lt : ∀ b ∈ [z, TI, TO, i1, i2, l1, l2], b < s.heap.objs.size := fun b hb => by
    simp only [List.mem_cons, List.not_mem_nil, or_false] at hb
    rcases hb with v | v | v | v | v | v | v
    · rw [v]; exact Heap.lt_size hz
    · rw [v]; exact Heap.lt_size hp
    · rw [v]; obtain ⟨_, _, u⟩ := hO; exact Heap.lt_size u
    · rw [v]; obtain ⟨_, e, _⟩ := h1; exact Heap.lt_size e
    · rw [v]; obtain ⟨_, e, _⟩ := h2; exact Heap.lt_size e
    · rw [v]; obtain ⟨_, e, _⟩ := g1; exact Heap.lt_size e
    · rw [v]; obtain ⟨_, e, _⟩ := g2; exact Heap.lt_size e
  refine callType_codes (Q₁ := fun obj s₁ => obj = .ref s.heap.objs.size ∧ s₁ = { s with heap := s.heap.push (lsO #[] 0) }) F.called_list (F.typeCall_list_1 _) F.entry_list_init (code_list_new _ ⟨rfl, rfl⟩) fun obj s₁ h₁ => ?_
  obtain ⟨rfl, rfl⟩ := h₁
  have hS : (s.heap.push (lsO #[] 0)).get? s.heap.objs.size = some (lsO #[] 0) := Heap.get?_push_size _ rfl
  have up : ∀ b o, s.heap.get? b = some o → (s.heap.push (lsO #[] 0)).get? b = some o := fun b o e => Heap.get?_push_of_some _ e
  have nS : s.heap.objs.size ∉ [z, TI, TO, i1, i2, l1, l2] := fun m => Nat.lt_irrefl _ (lt _ m)
  obtain ⟨oa, ob, ho⟩ := hO
  refine ⟨⟨_, hS, rfl⟩, F.args_list_init_2 _ _, zInit (A := A.in1) (s := { s with heap := s.heap.push (lsO #[] 0) }) hh D nS hn ⟨up _ _ hp, h1.at fun o e => up _ o e, h2.at fun o e => up _ o e, g1.at fun o e => up _ o e, g2.at fun o e => up _ o e, .inl ⟨up _ _ hz, oa, ob, up _ _ ho⟩⟩ (up _ _ hz) ⟨oa, ob, up _ _ ho⟩ hS fun h' tk acc c as k hS' hl hG ha => ?_⟩
  refine ⟨rfl, q h' tk acc c as (fun b o hb e => k b o (fun m => ?_) (up b o e)) hS' hl ⟨hG.rise, fun a m => Nat.le_trans (Nat.le_of_eq (by simp)) (hG.above a m), hG.pairs⟩ ha⟩
  rcases List.mem_cons.mp m with v | m
  · exact absurd (Heap.lt_size e) (by rw [v]; exact Nat.lt_irrefl _)
  · exact hb m
end
section
variable {X : Cx} {δ : List Cell} {a b : Expr} {as bs : List Dat}
def putZ : Hp → List Addr → List (V × V) → Hp
  | H, t :: ts, p :: ps => putZ (upd H t (.tup [p.1, p.2])) ts ps
  | H, _, _ => H
theorem putZ_off {c : Addr} : ∀ (ts : List Addr) (ps : List (V × V)) (H : Hp), c ∉ ts → putZ H ts ps c = H c
  | [], _, _, _ => rfl
  | _ :: _, [], _, _ => rfl
  | t :: ts, p :: ps, H, h => by
    show putZ (upd H t (.tup [p.1, p.2])) ts ps c = H c
    rw [putZ_off ts ps _ (fun m => h (List.mem_cons_of_mem _ m)), upd_ne (fun e => h (by rw [e]; exact List.mem_cons_self))]
theorem putZ_at : ∀ (ts : List Addr) (ps : List (V × V)) (H : Hp), ts.length = ps.length → ts.Nodup → ∀ (j : Nat) (t : Addr), ts[j]? = some t → ∃ p, ps[j]? = some p ∧ putZ H ts ps t = some (.tup [p.1, p.2])
  | [], _, _, _, _, j, t, h => by simp at h
  | _ :: _, [], _, h, _, _, _, _ => by cases h
  | t :: ts, p :: ps, H, hl, hn, 0, t', h => by
    have hn' := List.nodup_cons.mp hn
    have e : t = t' := by simpa using h
    subst e
    refine ⟨p, rfl, ?_⟩
    show putZ (upd H t (.tup [p.1, p.2])) ts ps t = _
    rw [putZ_off ts ps _ hn'.1, upd_same]
  | t :: ts, p :: ps, H, hl, hn, j + 1, t', h => by
    obtain ⟨q, e1, e2⟩ := putZ_at ts ps (upd H t (.tup [p.1, p.2])) (Nat.succ.inj hl) (List.nodup_cons.mp hn).2 j t' (by simpa using h)
    exact ⟨q, by simpa using e1, e2⟩
theorem RpA.idx {K : PySem.W.Frag} {G : Hp} : ∀ {vs : List V} {ds : List Dat}, vs.length = ds.length → (∀ (j : Nat) (v : V) (d : Dat), vs[j]? = some v → ds[j]? = some d → Rp K G v d) → RpA K G vs ds
  | [], [], _, _ => .nil
  | [], _ :: _, h, _ => by cases h
  | _ :: _, [], h, _ => by cases h
  | v :: vs, d :: ds, h, f => .cons (f 0 v d rfl rfl) (RpA.idx (Nat.succ.inj h) fun j v d e1 e2 => f (j + 1) v d (by simpa using e1) (by simpa using e2))
theorem zipGet {α β : Type} : ∀ {xs : List α} {ys : List β} {j : Nat} {p : α × β}, (xs.zip ys)[j]? = some p → xs[j]? = some p.1 ∧ ys[j]? = some p.2 := fun {xs ys j p} h => by
  rw [List.getElem?_zip_eq_some] at h
  exact h
def rLZ (X : Cx) : List V → Hp → VK → Prop := fun vs H Q => ∃ a b xs ys, vs = [.ref a, .ref b] ∧ SqL X.K H a xs ∧ SqL X.K H b ys ∧ min xs.length ys.length ≤ 1000 ∧
  ∀ (H' : Hp) (p : Addr) (ts : List Addr), (∀ b o, H b = some o → H' b = some o) → H p = Option.none → (∀ t ∈ ts, H t = Option.none) → p ∉ ts → H' p = some (.lst (ts.map V.ref)) → ts.length = (xs.zip ys).length → (∀ (j : Nat) (t : Addr), ts[j]? = some t → ∃ q, (xs.zip ys)[j]? = some q ∧ H' t = some (.tup [q.1, q.2])) → (∀ c, c ≠ p → c ∉ ts → H' c = H c) → Q (.ref p) H'
theorem zipLaid {pins : List (Addr × Obj)} {σ : SS} {H : Hp} {s : Shared} {h' : Heap} {tk : Nat} {c : Nat} {xs ys : List V} {us vs : List Value} {acc : Array Value} {ts : List Addr} {ch : List Addr} (I : Inv X pins σ H s) (r1 : Vals xs us) (r2 : Vals ys vs) (hn : min xs.length ys.length ≤ 1000)
    (hf : ∀ b ∈ ch, FpOk X pins H b) (hk : ∀ b o, b ∉ ch → s.heap.get? b = some o → h'.get? b = some o) (hS : h'.get? s.heap.objs.size = some (lsO acc c)) (hl : ts.length = min us.toArray.size vs.toArray.size) (hG : ZG us.toArray vs.toArray (s.heap.objs.size + 1) h' ts) (ha : acc.toList = ts.map Value.ref) :
    ∃ H' : Hp, (∀ b o, H b = some o → H' b = some o) ∧ H s.heap.objs.size = Option.none ∧ (∀ t ∈ ts, H t = Option.none) ∧ s.heap.objs.size ∉ ts ∧ H' s.heap.objs.size = some (.lst (ts.map V.ref)) ∧ ts.length = (xs.zip ys).length ∧ (∀ (j : Nat) (t : Addr), ts[j]? = some t → ∃ q, (xs.zip ys)[j]? = some q ∧ H' t = some (.tup [q.1, q.2])) ∧ (∀ c, c ≠ s.heap.objs.size → c ∉ ts → H' c = H c) ∧ Inv X pins σ H' { s with heap := h', toks := tk } := by
  have hSn : s.heap.objs.size ∉ ts := fun m => Nat.not_succ_le_self _ (hG.above _ m)
  have nd : ts.Nodup := List.Pairwise.imp (fun {a b} (h : a < b) => Nat.ne_of_lt h) hG.rise
  have new : ∀ t ∈ ts, H t = Option.none := fun t m => I.hok.fresh (Nat.le_of_succ_le (hG.above t m))
  have newS : H s.heap.objs.size = Option.none := I.hok.fresh (Nat.le_refl _)
  have lx : xs.length = us.length := Paired.length r1
  have ly : ys.length = vs.length := Paired.length r2
  have len : ts.length = (xs.zip ys).length := by rw [hl, List.length_zip, lx, ly]; rfl
  have atP := putZ_at ts (xs.zip ys) (upd H s.heap.objs.size (.lst (ts.map V.ref))) len nd
  have off : ∀ b, b ∉ ts → b ≠ s.heap.objs.size → putZ (upd H s.heap.objs.size (.lst (ts.map V.ref))) ts (xs.zip ys) b = H b := fun b h1 h2 => by rw [putZ_off ts _ _ h1, upd_ne h2]
  have low : ∀ b o, s.heap.get? b = some o → b ∉ ts ∧ b ≠ s.heap.objs.size := fun b o e => ⟨fun m => absurd (Heap.lt_size e) (Nat.not_lt.mpr (Nat.le_of_succ_le (hG.above b m))), Nat.ne_of_lt (Heap.lt_size e)⟩
  have kp : ∀ b u, H b = some u → (putZ (upd H s.heap.objs.size (.lst (ts.map V.ref))) ts (xs.zip ys)) b = some u := fun b u e => by
    rw [off b (fun m => by rw [new b m] at e; cases e) (fun v => by rw [v, newS] at e; cases e)]
    exact e
  have eS : putZ (upd H s.heap.objs.size (.lst (ts.map V.ref))) ts (xs.zip ys) s.heap.objs.size = some (.lst (ts.map V.ref)) := by rw [putZ_off ts _ _ hSn, upd_same]
  refine ⟨_, kp, newS, new, hSn, eS, len, atP, fun c h1 h2 => off c h2 h1, ?_⟩
  have nch : ∀ b u, H b = some u → b ∉ ch := fun b u e m => by rw [(hf b m).1] at e; cases e
  refine I.call' (ch := ch) rfl ⟨fun b o q _ _ hc => hk b o hc q, fun b o q _ _ hc => ⟨o.slots, hk b o hc q⟩, fun b o q n hc => ?_, fun b o q hc => ⟨o, hk b o hc q⟩, fun b xs q => kp b _ q, fun b o u q => kp b _ q, fun b ps q => ⟨#[], by rw [kp b _ q]; simp⟩⟩ (fun b u q => ?_) I.bare fun b m => ⟨(hf b m).2.2.2.1, (hf b m).2.1, (hf b m).2.2.2.2.1, (hf b m).2.2.2.2.2⟩
  · obtain ⟨z1, z2⟩ := low b o q
    rw [off b z1 z2]
    exact n
  · by_cases hb : b ∈ ts
    · obtain ⟨j, hj⟩ := List.getElem?_of_mem hb
      obtain ⟨p, e2, e3⟩ := atP j b hj
      rw [e3] at q
      cases q
      obtain ⟨x, y, f1, f2, f3⟩ := hG.pairs j b hj
      obtain ⟨g1, g2⟩ := zipGet e2
      rw [List.getElem?_toArray] at f1 f2
      obtain ⟨x', gx, rx⟩ := pairedGet r1 f1
      obtain ⟨y', gy, ry⟩ := pairedGet r2 f2
      rw [g1] at gx
      rw [g2] at gy
      cases gx
      cases gy
      exact ⟨by show 2 ≤ sizeLine; decide, [x, y], .cons rx (.cons ry .nil), ⟨_, f3, rfl, _, rfl⟩⟩
    · by_cases hb2 : b = s.heap.objs.size
      · rw [hb2] at q ⊢
        rw [eS] at q
        cases q
        have t1000 : (1000 : Nat) ≤ sizeLine := by decide
        refine ⟨by rw [List.length_map, len, List.length_zip]; omega, acc.toList, c, by rw [ha]; exact LiI.vals_refs ts, ?_⟩
        rw [Array.toArray_toList]
        exact hS
      · rw [off b hb hb2] at q
        exact (I.hok b u q).stay (fun d v hd y => hk d v (by rcases hd with e | e; (rw [e]; exact nch b u q); exact nch d _ e) y) (fun d y => kp d _ y) fun d xs y => kp d _ y
end
end K94
end

/-! text ZN -/
section
set_option Elab.async false
set_option autoImplicit false
set_option linter.all false
set_option maxRecDepth 100000
set_option maxHeartbeats 4000000
/-! list(zip(a, b)): the expression -/
namespace K94
open PySem PySem.Spec PyProof.Rows L2
section
variable {X : Cx} {δ : List Cell} {a b : Expr} {as bs : List Dat}
theorem pe_listZip {ta : TA} {p pz q3 pos : Pos} (hc : X.calm = true) (hgl : Gl X "list") (hml : X.mg "list" = Option.none) (hgz : Gl X "zip") (hmz : X.mg "zip" = Option.none) (ha : PA X [a, b] ta)
    (hs : starEach [a, b] X.env = (false, eval a X.env) :: starEach [b] X.env) (hpl : (backTo q3 (starEach [b] X.env)).any (·.1) = false)
    (na : starEach [.Call (.Name "zip" pz) [a, b] [] q3] X.env = (false, eval (.Call (.Name "zip" pz) [a, b] [] q3) X.env) :: starEach [] X.env) :
    PE X (.Call (.Name "list" p) [.Call (.Name "zip" pz) [a, b] [] q3] [] pos) (fun σ H Q => ta σ H fun vs H1 => rLZ X vs H1 Q) := by
  refine ⟨fun pins s σ H Q I h => ?_⟩
  refine Call_ (ld_blt I hgl hml boot_list (PyProof.Rows.callWith_type1 (args_cons ?_ na) na))
  refine Call_ (ld_blt I hgz hmz PyProof.Rows.boot_zip (PyProof.Rows.callWith_type1 (thn (ha.run q3 pins s σ H _ I h) fun us s1 ⟨vs, H1, I1, r1, q1⟩ => ?_) hs hpl))
  obtain ⟨l1, l2, xs, ys, ex, q1, q2, hn, q⟩ := q1
  subst ex
  cases r1 with
  | cons r rr =>
    cases rr with
    | cons r' rr =>
      cases rr
      cases r
      cases r'
      obtain ⟨us, ru, p1, _⟩ := I1.list q1
      obtain ⟨ws, rw_, p2, _⟩ := I1.list q2
      have lu : xs.length = us.length := Paired.length ru
      have lw : ys.length = ws.length := Paired.length rw_
      refine call_zip_2 p1.isList p2.isList fun h' hz hTI hTO h1 h2 hsz hk => args_nil ?_
      have I2 : Inv X pins σ H1 { s1 with heap := h' } := I1.kept (t' := s1.toks) hk
      have fp : ∀ c ∈ [s1.heap.objs.size + 4, s1.heap.objs.size + 3, s1.heap.objs.size, s1.heap.objs.size + 1], FpOk X pins H1 c := fun c hcm => by
        have hle : s1.heap.objs.size ≤ c := by
          simp only [List.mem_cons, List.not_mem_nil, or_false] at hcm
          rcases hcm with v | v | v | v
          · rw [v]; exact Nat.le_add_right _ _
          · rw [v]; exact Nat.le_add_right _ _
          · rw [v]; exact Nat.le_refl _
          · rw [v]; exact Nat.le_add_right _ _
        exact I1.fpOk hle (I1.hok.fresh hle)
      refine callListZip (s := { s1 with heap := h' }) (I1.ok.hd hc) (PySem.W.ktu_apart s1.heap.objs.size l1 l2 p1.lt p2.lt) (by show min us.length ws.length ≤ 1000; omega) hz hTI ⟨_, _, hTO⟩ h1 h2 (p1.isList.at fun o e => hk _ o e) (p2.isList.at fun o e => hk _ o e) fun h'' tk acc c ts k hS hl hG hacc => ?_
      obtain ⟨H', k1, k2, k3, k4, k5, k6, k7, k8, J⟩ := zipLaid (tk := tk) I2 ru rw_ hn fp k hS hl hG hacc
      exact ⟨.ref _, H', J, rfl, q H' _ ts k1 k2 k3 k4 k5 k6 k7 k8⟩
theorem EvP.listZip {p pz q3 pos : Pos} (g : Gx X) (ha : EvP X δ a (.list as)) (hb : EvP X δ b (.list bs)) (hn : min as.length bs.length ≤ 1000) (hml : X.mg "list" = Option.none) (hmz : X.mg "zip" = Option.none) (hgl : Gl X "list" := by rfl) (hgz : Gl X "zip" := by rfl)
    (hs : starEach [a, b] X.env = (false, eval a X.env) :: starEach [b] X.env := by rfl) (hs2 : starEach [b] X.env = (false, eval b X.env) :: starEach [] X.env := by rfl) (hpl : (backTo q3 (starEach [b] X.env)).any (·.1) = false := by rfl)
    (na : starEach [.Call (.Name "zip" pz) [a, b] [] q3] X.env = (false, eval (.Call (.Name "zip" pz) [a, b] [] q3) X.env) :: starEach [] X.env := by rfl) :
    EvP X δ (.Call (.Name "list" p) [.Call (.Name "zip" pz) [a, b] [] q3] [] pos) (.list (zipD as bs)) := fun σ G H m Q qq => by
  refine PE.w (pe_listZip g.calm hgl hml hgz hmz (pa_cons peW (pa_cons peW pa_nil hs2) hs) hs hpl na) ?_
  refine oneP m ha fun x G1 H1 m1 r1 f1 => ?_
  refine oneP m1 hb fun y G2 H2 m2 r2 f2 => ?_
  cases r1 with
  | @lst l1 xs _ g1 s1 =>
    cases r2 with
    | @lst l2 ys _ g2 s2 =>
      have g1' := f2.gg _ _ g1
      have s1' := s1.mono f2.gg
      refine ⟨l1, l2, xs, ys, rfl, SqL.of (m2.wd.lstH g1'), SqL.of (m2.wd.lstH g2), by rw [s1.length, s2.length]; exact hn, fun H' p ts k1 k2 k3 k4 k5 k6 k7 k8 => ?_⟩
      have gp := m2.wd.none k2
      have gt : ∀ t ∈ ts, G2 t = Option.none := fun t ht => m2.wd.none (k3 t ht)
      have le : Le G2 (fun c => if c = p ∨ c ∈ ts then H' c else G2 c) := fun c u e => by
        show (if c = p ∨ c ∈ ts then H' c else G2 c) = some u
        rw [if_neg]
        · exact e
        · rintro (v | v)
          · rw [v, gp] at e; cases e
          · rw [gt c v] at e; cases e
      have wd' : Wd (fun c => if c = p ∨ c ∈ ts then H' c else G2 c) H' := by
        refine ⟨fun c u e => ?_, fun c zs e => ?_⟩
        · by_cases v : c = p ∨ c ∈ ts
          · rw [if_pos v] at e; exact .inl e
          · rw [if_neg v] at e
            rcases m2.wd.sub c u e with z | ⟨d, o, z⟩
            · exact .inl (k1 c u z)
            · exact .inr ⟨d, o, k1 c _ z⟩
        · by_cases v : c = p ∨ c ∈ ts
          · show (if c = p ∨ c ∈ ts then H' c else G2 c) = _
            rw [if_pos v]; exact e
          · rw [k8 c (fun z => v (.inl z)) (fun z => v (.inr z))] at e
            show (if c = p ∨ c ∈ ts then H' c else G2 c) = _
            rw [if_neg v]; exact m2.wd.tup c zs e
      have ex : Ext G2 H2 (fun c => if c = p ∨ c ∈ ts then H' c else G2 c) H' := by
        refine ⟨le, fun c u e _ => k1 c u e, fun c hc => absurd hc List.not_mem_nil, fun c u e n _ => ?_⟩
        show (if c = p ∨ c ∈ ts then H' c else G2 c) = Option.none
        rw [if_neg]
        · exact n
        · rintro (v | v)
          · rw [v, k2] at e; cases e
          · rw [k3 c v] at e; cases e
      refine qq (.ref p) _ H' (.lst (by show (if p = p ∨ p ∈ ts then H' p else G2 p) = _; rw [if_pos (.inl rfl)]; exact k5) ?_) wd' (f1.trans (f2.trans ex))
      refine RpA.idx ?_ fun j v d e1 e2 => ?_
      · rw [List.length_map, k6, zipD_len, List.length_zip, s1.length, s2.length]
      · rw [List.getElem?_map] at e1
        obtain ⟨t, ht, rfl⟩ := Option.map_eq_some_iff.mp e1
        obtain ⟨q, f3, f4⟩ := k7 j t ht
        obtain ⟨h1, h2⟩ := zipGet f3
        unfold zipD at e2
        rw [List.getElem?_map] at e2
        obtain ⟨dd, f5, rfl⟩ := Option.map_eq_some_iff.mp e2
        obtain ⟨h3, h4⟩ := zipGet f5
        obtain ⟨d1, i1, i2⟩ := s1'.get h1
        obtain ⟨d2, i3, i4⟩ := s2.get h2
        rw [h3] at i1
        rw [h4] at i3
        cases i1
        cases i3
        refine .tup (xs := [q.1, q.2]) ?_ (.cons (i2.mono le) (.cons (i4.mono le) .nil))
        show (if t = p ∨ t ∈ ts then H' t else G2 t) = _
        rw [if_pos (.inr (List.mem_of_getElem? ht))]
        exact f4
end
end K94
end

/-! text XD -/
section
set_option Elab.async false
set_option autoImplicit false
set_option linter.all false
set_option maxRecDepth 100000
set_option maxHeartbeats 4000000
/-! the law: alike, one deed, walked, amounts -/
namespace K94
open PySem PySem.Spec PyProof.Rows L2
section
variable {X : Cx} {δ : List Cell} {a e : Expr} {p pos : Pos} {Φ : Cell → List Cell → Prop} {Ω : Out → Prop} {ss : List Stmt}
/-- what was one's own is data from now on -/
theorem Run.give {i : Nat} {q : Addr} {d : Dat} (h : δ[i]? = some (.ow q (.d d))) (k : Run X (δ.set i (.im d)) ss Ω) : Run X δ ss Ω := fun σ G H m D post => by
  obtain ⟨u, hp, gq, nt, m2⟩ := m.lend h rfl
  refine k σ (upd G q u) H m2 D (post.seq ⟨Le.upd gq, fun b v e _ => e, fun b hb => .inl (noIm b hb), fun b v e h0 n => ?_⟩)
  rw [upd_ne (fun z => n (by rw [z]; exact feet_at h (by simp [feetC, foot])))]
  exact h0
/-- a dict of one's own, made of pairs -/
theorem Ev.dictOwn (g : Gx X) {ps : List (L2.Key × Dat)} (ha : EvP X δ a (.list (ps.map fun p => .tuple [kD p.1, p.2]))) (hk : ∀ q, Φ (.ow q (.d (.dict (dictOf ps)))) δ) (hm : X.mg "dict" = none) (hg : Gl X "dict" := by rfl) (he : starEach [a] X.env = (false, eval a X.env) :: starEach [] X.env := by rfl) :
    Ev X δ (.Call (.Name "dict" p) [a] [] pos) Φ := fun σ G H m Q qq => by
  refine PE.w (pe_callTy (T := "dict") callW hg hm (by decide +kernel) paW (by decide) (by decide) he rfl) ((EvAP.cons ha .nil he) σ G H m _ fun vs G1 H1 r w ex => ?_)
  obtain ⟨v, rfl, r1⟩ := rpa1 r
  cases r1 with
  | @lst l xs _ ga ra =>
    have m1 := m.ext ex w
    have get : ∀ {ps : List (L2.Key × Dat)} {xs : List V}, RpA X.K G1 xs (ps.map fun p => Dat.tuple [kD p.1, p.2]) → ∃ (as : List Addr) (kvs : List (L2.Key × V)), xs = as.map V.ref ∧ Paired (fun p kv => SqT X.K H1 p [kV kv.1, kv.2]) as kvs ∧ Paired (fun (q : L2.Key × V) (p : L2.Key × Dat) => q.1 = p.1 ∧ Rp X.K G1 q.2 p.2) kvs ps := by
      intro ps
      induction ps with
      | nil => intro xs h; cases h; exact ⟨[], [], rfl, .nil, .nil⟩
      | cons p ps ih =>
        intro xs h
        cases h with
        | cons r t =>
          obtain ⟨as, kvs, rfl, h2, h3⟩ := ih t
          cases r with
          | @tup b ys _ gb rb =>
            obtain ⟨v1, v2, rfl, r1, r2⟩ := rpa2 rb
            have e : v1 = kV p.1 := by
              generalize hk : p.1 = kk at r1
              cases kk with
              | inl i => cases r1; rfl
              | inr i => cases r1; rfl
            subst e
            exact ⟨b :: as, (p.1, v2) :: kvs, rfl, .cons (SqT.of (w.tupH gb)) h2, .cons ⟨rfl, r2⟩ h3⟩
    obtain ⟨as, kvs, rfl, h2, h3⟩ := get ra
    refine CallR.w (call_dictP g.calm) ⟨l, as, kvs, rfl, SqL.of (w.lstH ga), h2, fun q nq => ?_⟩
    obtain ⟨m2, f2⟩ := m1.newOw (u := .dK (mergeK [] kvs)) (o := .d (.dict (dictOf ps))) nq rfl (fun _ z => nomatch z) ⟨_, upd_same, mergeRp h3 .nil, m1.wd.none nq⟩
    exact qq _ _ _ _ _ (hk q) m2 ((Ext.up ex _).trans f2)
end
structure Nice (d : Dat) : Prop where
  ref : refD d = true
  shows : d.py.showable = true
  deep : d.py.depth ≤ 20
  len : d.py.shown.length ≤ sizeLine
theorem permS {ys : List Dat} {ks : List Str} (h : ys.Perm (dS ks)) : ∃ ks' : List Str, ys = dS ks' ∧ ks'.Perm ks := by
  refine ⟨ys.map sOf, ?_, ?_⟩
  · show ys = (ys.map sOf).map Dat.str
    rw [List.map_map]
    have : ys.map id = ys.map (Dat.str ∘ sOf) := List.map_congr_left fun y hy => by
      obtain ⟨z, _, rfl⟩ := List.mem_map.mp (h.mem_iff.mp hy)
      rfl
    rw [← this, List.map_id]
  · have := h.map sOf
    rw [List.map_map] at this
    have e : ks.map (sOf ∘ Dat.str) = ks := by
      have : (sOf ∘ Dat.str) = id := rfl
      rw [this, List.map_id]
    rwa [e] at this
theorem dictOf_nd {α : Type} (kf : α → L2.Key) (r : α → Dat) {l : List α} (nd : (l.map kf).Nodup) : dictOf (l.map fun x => (kf x, r x)) = l.map fun x => (kD (kf x), r x) := by
  unfold dictOf
  rw [List.foldl_map]
  exact putsK kf r l [] (fun p hp => absurd hp List.not_mem_nil) nd
theorem takenAt {am : Str → Int} {z : Str} (hz : 0 < am z) : ∀ {c : List Str} {j : Nat}, c[j]? = some z → (∀ x ∈ c.take j, ¬ 0 < am x) → takenK am c = some z
  | [], j, h, _ => by simp at h
  | y :: c, 0, h, _ => by
    have e : y = z := by simpa using h
    subst e
    unfold takenK
    rw [List.filter_cons_of_pos (p := fun k => decide (0 < am k)) (decide_eq_true hz)]; rfl
  | y :: c, j + 1, h, n => by
    have hy : ¬ 0 < am y := n y (by simp)
    unfold takenK
    rw [List.filter_cons_of_neg (p := fun k => decide (0 < am k)) (by simpa using hy)]
    exact takenAt hz (by simpa using h) fun x hx => n x (by rw [List.take_succ_cons]; exact List.mem_cons_of_mem _ hx)
theorem takenNo {am : Str → Int} {c : List Str} (n : ∀ x ∈ c, ¬ 0 < am x) : takenK am c = none := by
  unfold takenK
  rw [List.filter_eq_nil_iff.mpr fun x hx => by simpa using n x hx]; rfl
theorem takeMem {α : Type} {l : List α} {j : Nat} {z : α} (h : l[j]? = some z) {x : α} (hx : x ∈ l.take (j + 1)) : x ∈ l.take j ∨ x = z := by
  rw [List.take_add_one, h, Option.toList_some] at hx
  rcases List.mem_append.mp hx with m | m
  · exact .inl m
  · exact .inr (List.mem_singleton.mp m)
section
variable {P : Program} {w : World} {K : PySem.W.Frag} {mg : Str → Option Value} {base : Heap} {k : Nat} {C : Addr}
/-! ### _law_alike -/
def rAl : List Dat → Dat → Prop := fun ds d => ∃ e : Dat, Nice e ∧ ds = [e, e] ∧ d = .bool true
def nAl : List Str := ["_law_found", "_law_due"]
theorem scAl : FnScope nAl ["_law_found", "_law_due"] (defScope (top 69)) := ⟨rfl, rfl, rfl, by decide +kernel, rfl, by decide +kernel, by decide +kernel⟩
theorem okAl (B : Bs K mg) (F : Stands K mg "_law_alike" (top 69)) : Has P w K mg base 1 "_law_alike" (PurSp K rAl) := by
  refine Has.pur F B scAl (fun _ _ _ _ _ _ us hl => match us, hl with | [_, _], _ => rfl) (fun ds d ⟨_, _, e, _⟩ => by rw [e]; rfl) fun ds d ⟨e, ne, hds, hd⟩ f cdv A outer s H g hr => ?_
  subst hds hd
  have rp : ∀ (i : Nat) (x : Str) (px : Pos), nAl[i]? = some x → True := fun _ _ _ _ => trivial
  refine Run.one (RunS.retP (EvP.and (c := true) (k := true) (EvP.cmp (.var (i := 0) rfl) (.var (i := 1) rfl) (Cmp2.eqRefl g ne.ref (by have := ne.deep; omega))) fun _ => EvP.one ?_) rfl)
  refine EvP.cast (EvP.cmp (EvP.callB (fid := "repr") (.cons (.var (i := 0) rfl) .nil) (CallD.repr g ne.shows (by have := ne.deep; omega) ne.len fun _ _ _ r => r.isRef ne.ref) (B.free _ (by decide))) (EvP.callB (fid := "repr") (.cons (.var (i := 1) rfl) .nil) (CallD.repr g ne.shows (by have := ne.deep; omega) ne.len fun _ _ _ r => r.isRef ne.ref) (B.free _ (by decide))) Cmp2.eqS) (by rw [decide_eq_true rfl])
/-! ### _law_one_deed -/
def rOd : Ow → List Dat → (Dat → Ow → Prop) → Prop := fun o ds Φ => ∃ (ks : List Str) (am : Str → Int) (D : Deed), ks.length ≤ 100 ∧ DeedIn ks D ∧ o = .d (mD ks am) ∧ ds = [D.dat] ∧ Φ .none (.d (mD ks (doA am D)))
def nOd : List Str := ["_law_amounts_here", "_law_deed", "_law_kind"]
theorem scOd : FnScope nOd ["_law_amounts_here", "_law_deed"] (defScope (top 80)) := ⟨rfl, rfl, rfl, by decide +kernel, rfl, by decide +kernel, by decide +kernel⟩
theorem okOd (B : Bs K mg) (F : Stands K mg "_law_one_deed" (top 80)) : Has P w K mg base 1 "_law_one_deed" (BorSp K rOd) := by
  refine Has.bor F B scOd (fun _ _ _ _ _ _ us hl => match us, hl with | [_, _], _ => rfl) (fun o ds d ⟨_, _, _, _, _, _, e, _⟩ => by rw [e]; rfl) fun a o ds Φ ⟨ks, am, D, lk, hD, ho, hds, hΦ⟩ f cdv A outer s H g hr => ?_
  subst ho hds
  have nd := scOd.nd
  cases D with
  | put z =>
    refine Run.cons (RunS.if_ (EvTP.t (c := decide (("put" : Str) = "put")) (EvTP.cmp (EvP.ix (.var (i := 1) rfl) .int (Ix2.tup atI0)) .str Cmp2.eqS) ?_))
    rw [if_pos (by decide)]
    refine Run.cons (RunS.augK (i := 0) (q := a) (dk := .str z) (kk := .inr z) (n := am z) (j := 1) (op := .Add) (f := fun i j => i + j) g rfl (EvP.ix (.var (i := 1) rfl) .int (Ix2.tup atI1)) (.str z) (dlook_mD hD) .int (by rw [List.length_map]; omega) in_add ?_)
    refine Run.one (RunS.retN ⟨.none, .d (mD ks (doA am (.put z))), rfl, ?_, fun _ => rfl, hΦ⟩)
    rw [dputK_mD hD]
    rfl
  | call c =>
    refine Run.cons (RunS.if_ (EvTP.t (c := decide (("call" : Str) = "put")) (EvTP.cmp (EvP.ix (.var (i := 1) rfl) .int (Ix2.tup atI0)) .str Cmp2.eqS) ?_))
    rw [if_neg (by decide)]
    refine Run.nil ?_
    refine Run.one (RunS.for_ ((EvItP.ftup (EvP.ix (.var (i := 1) rfl) .int (Ix2.tup atI1))).i ?_) rfl)
    refine ⟨fun j δ' => (∀ x ∈ c.take j, ¬ 0 < am x) ∧ ∃ x, δ' = [.ow a (.d (mD ks am)), .im (Deed.call c).dat, x], ⟨by simp, _, rfl⟩, fun j d δ' hj ⟨hn, x, e⟩ => ?_, fun δ' ⟨hn, x, e⟩ => ?_⟩
    · subst e
      rw [List.getElem?_map] at hj
      obtain ⟨z, hz, rfl⟩ := Option.map_eq_some_iff.mp hj
      have zk := hD.1 z (List.mem_of_getElem? hz)
      refine ⟨_, AsD.name (i := 2) nd, ?_⟩
      refine Run.one (RunS.if_ (EvTP.t (c := decide ((0 : Int) < am z)) (EvTP.readOwn (i := 0) rfl rfl (EvTP.cmp (EvP.dgetK g (k := .inr z) (.var (i := 0) rfl) (.var (i := 2) rfl) (.str z) (atomsS id _ _) (dlook_mD zk)) .int Cmp2.gt)) ?_))
      by_cases hp : 0 < am z
      · rw [if_pos (decide_eq_true hp)]
        refine Run.cons (RunS.augK (i := 0) (q := a) (dk := .str z) (kk := .inr z) (n := am z) (j := 1) (op := .Sub) (f := fun i j => i - j) g rfl (.var (i := 2) rfl) (.str z) (dlook_mD zk) .int (by rw [List.length_map]; omega) in_sub ?_)
        refine Run.one (RunS.brk ⟨.d (mD ks (doA am (.call c))), ?_, fun _ => rfl, hΦ⟩)
        rw [dputK_mD zk]
        have e2 : doA am (.call c) = upA am z (am z - 1) := by show (match takenK am c with | none => am | some k => upA am k (am k - 1)) = _; rw [takenAt hp hz hn]
        rw [e2]; rfl
      · rw [if_neg (by simpa using hp)]
        refine Run.nil ⟨fun x hx => ?_, _, rfl⟩
        rcases takeMem hz hx with m | m
        · exact hn x m
        · rw [m]; exact hp
    · subst e
      rw [List.length_map, List.take_length] at hn
      have e2 : doA am (.call c) = am := by show (match takenK am c with | none => am | some k => upA am k (am k - 1)) = _; rw [takenNo hn]
      rw [e2] at hΦ
      exact ⟨_, rfl, fun _ => rfl, hΦ⟩
/-! ### _law_walked -/
def rWk : List Dat → Dat → Prop := fun ds d => ∃ (st : List Deed) (ks : List Str) (am : Str → Int), ks.Nodup ∧ ks.length ≤ 100 ∧ (∀ D ∈ st, DeedIn ks D) ∧ ds = [stD st, mD ks am] ∧ d = mD (sS ks) (st.foldl doA am)
def nWk : List Str := ["_law_stretch_here", "_law_amounts_here", "_law_later", "_law_kind", "_law_deed"]
theorem scWk : FnScope nWk ["_law_stretch_here", "_law_amounts_here"] (defScope (top 81)) := ⟨rfl, rfl, rfl, by decide +kernel, rfl, by decide +kernel, by decide +kernel⟩
theorem okWk (B : Bs K mg) (F : Stands K mg "_law_walked" (top 81)) (od : Has P w K mg base 1 "_law_one_deed" (BorSp K rOd)) : Has P w K mg base 2 "_law_walked" (PurSp K rWk) := by
  refine Has.pur F B scWk (fun _ _ _ _ _ _ us hl => match us, hl with | [_, _], _ => rfl) (fun ds d ⟨_, _, _, _, _, _, e, _⟩ => by rw [e]; rfl) fun ds d ⟨st, ks, am, nk, lk, hst, hds, hd⟩ f cdv A outer s H g hr => ?_
  subst hds hd
  have nd := scWk.nd
  have ns : (sS ks).Nodup := (sS_perm _).nodup_iff.mpr nk
  have ls : (sS ks).length ≤ 100 := by rw [(sS_perm _).length_eq]; exact lk
  have inS : ∀ k, k ∈ sS ks ↔ k ∈ ks := fun k => (sS_perm _).mem_iff
  have e1 : (ks.map fun k => (Dat.str k, Dat.int (am k))).map (·.1) = dS ks := by rw [List.map_map]; rfl
  refine Run.cons (RunS.set (i := 2) (Ev.dictOwn g (ps := (sS ks).map fun k => (.inr k, .int (am k))) (EvP.cast (EvP.comp (own := [("_law_kind", 3)]) (ds := dS (sS ks)) (b := fun _ => true) (r := fun d => .tuple [d, .int (am (sOf d))]) (f := fun d => [.im (stD st), .im (mD ks am), .no, .im d, .no]) rfl nd (blkOk_by (N := nWk) (sc := defScope (top 81)) (by decide +kernel))
    (EvItP.list (EvP.cast (EvP.callB (fid := "sorted") (.cons (EvP.cast (EvP.callT (T := "list") (.cons (.var (i := 1) rfl) .nil) (CallD.listK g (atomsS id _ _)) (B.free _ (by decide))) (congrArg Dat.list e1)) .nil) (CallD.sorted g (alikeStrs ks) (sortableStrs ks) (fun d hd => by obtain ⟨z, _, rfl⟩ := List.mem_map.mp hd; exact Nat.zero_le _) (by rw [List.length_map]; omega)) (B.free _ (by decide))) (congrArg Dat.list (srtS ks)))) (fun d hd s H C cl fp => AsDV.name (i := 3) nd) (fun d hd s H C cl fp => ?_) (fun d hd _ s H C cl fp => ?_) (len1000 ls _)) ?_) (fun q => ?_) (B.free _ (by decide))) nd)
  · rfl
  · obtain ⟨o, ho, rfl⟩ := List.mem_map.mp hd
    exact EvP.tup (.cons (.var (i := 3) rfl) (.cons (EvP.dgetK g.blk (k := .inr o) (.var (i := 1) rfl) (.var (i := 3) rfl) (.str o) (atomsS id _ _) (dlook_mD ((inS o).mp ho))) .nil)) (Nat.le_of_ble_eq_true rfl)
  · rw [keptAll, List.map_map, List.map_map]; rfl
  · have e0 : dictOf ((sS ks).map fun k => ((.inr k : L2.Key), Dat.int (am k))) = (sS ks).map fun k => (.str k, .int (am k)) := dictOf_nd (fun k : Str => (.inr k : L2.Key)) (fun k => .int (am k)) (nodupMap (fun a b e => by injection e) ns)
    rw [e0]
    refine Run.cons (RunS.for_ ((EvItP.tup (.var (i := 0) rfl)).i ?_) rfl)
    refine ⟨fun j δ' => ∃ x, δ' = [.im (stD st), .im (mD ks am), .ow q (.d (mD (sS ks) ((st.take j).foldl doA am))), .no, x], ⟨_, rfl⟩, fun j d δ' hj ⟨x, e⟩ => ?_, fun δ' ⟨x, e⟩ => ?_⟩
    · subst e
      rw [List.getElem?_map] at hj
      obtain ⟨D, hD, rfl⟩ := Option.map_eq_some_iff.mp hj
      have next := foldTake doA am hD
      refine ⟨_, AsD.name (i := 4) nd, ?_⟩
      refine Run.one (RunS.expr (EvI.ev (EvI.ownB (i := 2) (q := q) g od hr ⟨_, rfl⟩ (EvAP.ea (.cons (.var (i := 4) rfl) .nil) ⟨_, fun d o' => o' = Ow.d (mD (sS ks) (doA ((st.take j).foldl doA am) D)), rfl, ⟨sS ks, _, D, ls, (hst D (List.mem_of_getElem? hD)).mono (fun k hk => (inS k).mpr hk), rfl, rfl, rfl⟩, fun d o' e _ => ?_⟩)) fun d δ' hx => hx))
      refine ⟨.im D.dat, ?_⟩
      rw [next, e]; rfl
    · subst e
      rw [List.length_map, List.take_length]
      exact Run.one (RunS.ret (Ev.giveVar (i := 2) rfl rfl))
/-! ### _law_amounts -/
def rLa : Ow → List Dat → (Dat → Ow → Prop) → Prop := fun o ds Φ => ∃ (B : Bag) (h : Hs) (n : Nat), Small h ∧ h.ks.Nodup ∧ n ≤ 100 ∧ o = bgO B ∧ ds = [h.dat, .int (n : Nat)] ∧ ∀ (ks : List Str) (am : Str → Int) (B' : Bag), ks.Perm h.ks → (∀ k, 0 ≤ am k ∧ am k ≤ n + 2) → Φ (mD ks am) (bgO B')
def nLa : List Str := ["_law_bag_here", "_law_house", "_law_most", "_law_kinds", "_law_kind"]
theorem scLa : FnScope nLa ["_law_bag_here", "_law_house", "_law_most"] (defScope (top 73)) := ⟨rfl, rfl, rfl, by decide +kernel, rfl, by decide +kernel, by decide +kernel⟩
theorem okLa (B : Bs K mg) (F : Stands K mg "_law_amounts" (top 73)) (tk : Has P w K mg base 1 "_law_take" (BorSp K rTake)) (one : Has P w K mg base 2 "_law_one" (BorSp K rOne)) (mx : Has P w K mg base 2 "_law_mixed" (BorSp K rMix)) : Has P w K mg base 3 "_law_amounts" (BorSp K rLa) := by
  refine Has.bor F B scLa (fun _ _ _ _ _ _ us hl => match us, hl with | [_, _, _], _ => rfl) (fun o ds d ⟨_, _, _, _, _, _, _, e, _⟩ => by rw [e]; rfl) fun a o ds Φ ⟨G, h, n, sm, nk, hn, ho, hds, hΦ⟩ f cdv A outer s H g hr => ?_
  subst ho hds
  have nd := scLa.nd
  have s6 := sm.ks
  refine Run.cons (RunS.set (i := 3) (EvI.ev (Ψ := fun d δ' => ∃ (ks : List Str) (B' : Bag), ks.Perm h.ks ∧ d = lS ks ∧ δ' = [.ow a (bgO B'), .im h.dat, .im (.int (n : Nat)), .no, .no]) (EvI.ownB (i := 0) (q := a) g mx hr ⟨_, rfl⟩ (EvAP.ea (.cons (EvP.callT (T := "list") (.cons (EvP.ix (.var (i := 1) rfl) .int (Ix2.tup atI0)) .nil) CallD.listT (B.free _ (by decide))) .nil) ⟨_, fun d o' => ∃ (ys : List Dat) (B' : Bag), ys.Perm (dS h.ks) ∧ d = .list ys ∧ o' = bgO B', rfl, ⟨G, dS h.ks, by rw [List.length_map]; omega, rfl, rfl, fun ys B' hp => ⟨ys, B', hp, rfl, rfl⟩⟩, fun d o' ⟨ys, B', hp, e1, e2⟩ _ => ?_⟩)) fun d δ' ⟨ks, B1, hp, e1, e2⟩ => ?_) nd)
  · obtain ⟨ks, rfl, hk⟩ := permS hp
    exact ⟨ks, B', hk, e1, by rw [e2]; rfl⟩
  · subst e1 e2
    have nk' : ks.Nodup := hp.nodup_iff.mpr nk
    have lk : ks.length ≤ 6 := by rw [hp.length_eq]; exact s6
    refine Run.one (RunS.retI (EvI.callT (T := "dict") (EvA.cons (EvI.compI (own := [("_law_kind", 4)]) rfl nd (blkOk_by (N := nLa) (sc := defScope (top 73)) (by decide +kernel)) ((EvItP.list (.var (i := 3) rfl)).i ?_)) rfl) (B.free _ (by decide))))
    refine ⟨len1000 (by omega) _, fun i acc δ' => ∃ (B' : Bag) (am : Str → Int) (x : Cell), (∀ k, 0 ≤ am k ∧ am k ≤ n + 2) ∧ acc = (ks.take i).map (fun k => .tuple [.str k, .int (am k)]) ∧ δ' = [.ow a (bgO B'), .im h.dat, .im (.int (n : Nat)), .im (lS ks), x], ⟨B1, fun _ => 0, .no, fun k => ⟨Int.le_refl _, by show (0 : Int) ≤ _; omega⟩, rfl, rfl⟩, fun i d acc δ' hi ⟨B', am, x, ham, ea, ed⟩ => ?_, fun acc δ' ⟨B', am, x, ham, ea, ed⟩ => ?_⟩
    · subst ea ed
      rw [List.getElem?_map] at hi
      obtain ⟨z, hz, rfl⟩ := Option.map_eq_some_iff.mp hi
      refine ⟨_, fun s H C cl fp => ⟨AsDV.name (i := 4) nd, ?_⟩⟩
      refine EvI.tup (EvA.cons (EvP.i (.var (i := 4) rfl) (EvA.cons (EvI.ownB (i := 0) (q := a) g.blk tk (hr.mono (by decide)) ⟨_, rfl⟩ (EvA.cons (EvI.ownB (i := 0) (q := a) g.blk one hr ⟨_, rfl⟩ (EvAP.ea (.cons (EvP.lst (ds := [.int (n + 1 : Int), .int 2, .int 1, .int (n + 1 : Int)]) (.cons (EvP.bin (.var (i := 2) rfl) .int Op2.add) (.cons .int (.cons .int (.cons (EvP.bin (.var (i := 2) rfl) .int Op2.add) .nil)))) (Nat.le_of_ble_eq_true rfl)) .nil) ⟨_, fun d o' => ∃ (m : Nat) (B' : Bag), 1 ≤ m ∧ m ≤ n + 2 ∧ d = .int (m : Nat) ∧ o' = bgO B', rfl, ⟨B', _, by simp, by simp, rfl, .inl rfl, fun d hd B2 => ?_⟩, fun d o' ⟨m, B2, m1, m2, e1, e2⟩ _ => ?_⟩)))))))
      · simp only [List.mem_cons, List.not_mem_nil, or_false] at hd
        rcases hd with rfl | rfl | rfl | rfl
        · exact ⟨n + 1, B2, by omega, by omega, rfl, rfl⟩
        · exact ⟨2, B2, by omega, by omega, rfl, rfl⟩
        · exact ⟨1, B2, by omega, by omega, rfl, rfl⟩
        · exact ⟨n + 1, B2, by omega, by omega, rfl, rfl⟩
      · subst e1 e2
        refine EvA.nil ⟨_, fun d o' => ∃ (v : Nat) (B' : Bag), v < m ∧ d = .int (v : Nat) ∧ o' = bgO B', rfl, ⟨B2, m, m1, by omega, rfl, rfl, fun v B' hv => ⟨v, B', hv, rfl, rfl⟩⟩, fun d o' ⟨v, B3, hv, e1, e2⟩ _ => ?_⟩
        subst e1 e2
        refine EvA.nil ⟨(show (2 : Nat) ≤ sizeLine by decide), B3, upA am z v, .im (.str z), fun k => ?_, ?_, rfl⟩
        · unfold upA
          split
          · exact ⟨by omega, by omega⟩
          · exact ham k
        · rw [List.take_add_one, hz, Option.toList_some, List.map_append]
          have hz' : z ∉ ks.take i := fun hm => by
            have h1 := List.nodup_append.mp (List.take_append_drop i ks ▸ nk')
            have h2 : z ∈ ks.drop i := List.mem_of_getElem? (i := 0) (by rw [List.getElem?_drop]; exact hz)
            exact h1.2.2 z hm z h2 rfl
          congr 1
          · refine List.map_congr_left fun k hk => ?_
            have : k ≠ z := fun e => hz' (e ▸ hk)
            show Dat.tuple [.str k, .int (am k)] = Dat.tuple [.str k, .int (if k = z then (v : Int) else am k)]
            rw [if_neg this]
          · show [Dat.tuple [.str z, .int (v : Nat)]] = [Dat.tuple [.str z, .int (if z = z then (v : Int) else am z)]]
            rw [if_pos rfl]
    · subst ea ed
      rw [List.length_map, List.take_length]
      have e0 : dictOf (ks.map fun k => ((.inr k : L2.Key), Dat.int (am k))) = ks.map fun k => (.str k, .int (am k)) := dictOf_nd (fun k : Str => (.inr k : L2.Key)) (fun k => .int (am k)) (nodupMap (fun a b e => by injection e) nk')
      refine EvA.nil ⟨mD ks am, ?_, _, _, rfl, rfl, fun _ => rfl, hΦ ks am B' hp ham⟩
      have := CallD.dictP g (ps := ks.map fun k => ((.inr k : L2.Key), Dat.int (am k)))
      rw [e0, List.map_map] at this
      exact this
end
end K94
end

/-! text XE -/
section
set_option Elab.async false
set_option autoImplicit false
set_option linter.all false
set_option maxRecDepth 100000
set_option maxHeartbeats 4000000
/-! the law: one row done, a log played -/
namespace K94
open PySem PySem.Spec PyProof.Rows L2
def thOk (t : Str × Str) : Prop := NameOk t.1 ∧ NameOk t.2
def thK (d : Dat) : Str := match d with
  | .tuple [_, .str k] => k
  | _ => default
def thN (d : Dat) : Str := match d with
  | .tuple [.str n, _] => n
  | _ => default
def unTh (d : Dat) : Str × Str := (thN d, thK d)
theorem unTh_th (t : Str × Str) : unTh (thD t) = t := rfl
theorem keptTh (b : Str × Str → Bool) (ts : List (Str × Str)) : keptD (fun d => b (unTh d)) id (ts.map thD) = (ts.filter b).map thD := by
  unfold keptD
  rw [List.filter_map, List.map_id]; rfl
theorem shapedTh {t : Str × Str} (h : thOk t) : SeqAt.shaped (thD t).py = true := shapedS (p := [t.1, t.2]) fun k hk => by
  rcases List.mem_cons.mp hk with rfl | hk
  · exact h.1.str
  · rw [List.mem_singleton.mp hk]; exact h.2.str
def stepT (ts : List (Str × Str)) : Row → List (Str × Str)
  | .put n k => ts ++ [(n, k)]
  | .call c => goneT ts c
def toldT (ts : List (Str × Str)) : Row → Dat
  | .put _ _ => .none
  | .call c => nameOf (firstOf ts c)
abbrev thL (ts : List (Str × Str)) : Dat := .list (ts.map thD)
theorem findHead {α : Type} (b : α → Bool) : ∀ l : List α, l.find? b = (l.filter b).head?
  | [] => rfl
  | x :: l => by
    by_cases h : b x = true
    · rw [List.find?_cons_of_pos h, List.filter_cons_of_pos h]; rfl
    · rw [List.find?_cons_of_neg h, List.filter_cons_of_neg h]; exact findHead b l
theorem eraseNe {ts : List (Str × Str)} (nd : ts.Nodup) (t : Str × Str) : ts.eraseIdx (ts.idxOf t) = ts.filter fun x => !decide (x = t) := by
  have e : ts.eraseIdx (ts.idxOf t) = ts.erase t := (List.erase_eq_eraseIdx_of_idxOf rfl).symm
  rw [e, nd.erase_eq_filter]
  refine List.filter_congr fun x _ => ?_
  by_cases h : x = t <;> simp [h]
section
variable {P : Program} {w : World} {K : PySem.W.Frag} {mg : Str → Option Value} {base : Heap} {k : Nat} {C : Addr}
/-! ### _law_row_done -/
def rRd : List Dat → Dat → Prop := fun ds d => ∃ (hd : Dat) (ts : List (Str × Str)) (r : Row), ts.Nodup ∧ ts.length ≤ 900 ∧ (∀ t ∈ ts, thOk t) ∧ ds = [hd, thL ts, r.dat] ∧ d = .tuple [thL (stepT ts r), toldT ts r]
def nRd : List Str := ["_law_house", "_law_there", "_law_row", "_law_thing", "_law_kind", "_law_some"]
theorem scRd : FnScope nRd ["_law_house", "_law_there", "_law_row"] (defScope (top 78)) := ⟨rfl, rfl, rfl, by decide +kernel, rfl, by decide +kernel, by decide +kernel⟩
theorem okRd (B : Bs K mg) (F : Stands K mg "_law_row_done" (top 78)) : Has P w K mg base 1 "_law_row_done" (PurSp K rRd) := by
  refine Has.pur F B scRd (fun _ _ _ _ _ _ us hl => match us, hl with | [_, _, _], _ => rfl) (fun ds d ⟨_, _, _, _, _, _, e, _⟩ => by rw [e]; rfl) fun ds d ⟨hd0, ts, r, nt, lt, okt, hds, hd⟩ f cdv A outer s H g hr => ?_
  subst hds hd
  have nd := scRd.nd
  have t1000 : (1000 : Nat) ≤ sizeLine := by decide
  cases r with
  | put n z =>
    refine Run.cons (RunS.if_ (EvTP.t (c := decide (("put" : Str) = "put")) (EvTP.cmp (EvP.ix (.var (i := 2) rfl) .int (Ix2.tup atI0)) .str Cmp2.eqS) ?_))
    rw [if_pos (by decide)]
    refine Run.one (RunS.retP (EvP.tup (ds := [thL (ts ++ [(n, z)]), .none]) (.cons (EvP.cast (EvP.bin (.var (i := 1) rfl) (.lst (ds := [thD (n, z)]) (.cons (EvP.tup (.cons (EvP.ix (.var (i := 2) rfl) .int (Ix2.tup atI1)) (.cons (EvP.ix (.var (i := 2) rfl) .int (Ix2.tup atI2)) .nil)) (Nat.le_of_ble_eq_true rfl)) .nil) (Nat.le_of_ble_eq_true rfl)) (Op2.cat ?_)) ?_) (.cons .non .nil)) (Nat.le_of_ble_eq_true rfl)) rfl)
    · rw [List.length_map]; show ts.length + 1 ≤ sizeLine; omega
    · show Dat.list (ts.map thD ++ [thD (n, z)]) = Dat.list ((ts ++ [(n, z)]).map thD)
      rw [List.map_append]; rfl
  | call c =>
    refine Run.cons (RunS.if_ (EvTP.t (c := decide (("call" : Str) = "put")) (EvTP.cmp (EvP.ix (.var (i := 2) rfl) .int (Ix2.tup atI0)) .str Cmp2.eqS) ?_))
    rw [if_neg (by decide)]
    refine Run.nil ?_
    refine Run.cons (RunS.if_ (EvTP.t (c := decide (("call" : Str) = "drop")) (EvTP.cmp (EvP.ix (.var (i := 2) rfl) .int (Ix2.tup atI0)) .str Cmp2.eqS) ?_))
    rw [if_neg (by decide)]
    refine Run.nil ?_
    refine Run.cons (RunS.for_ ((EvItP.ftup (EvP.ix (.var (i := 2) rfl) .int (Ix2.tup atI1))).i ?_) rfl)
    refine ⟨fun j δ' => (c.take j).findSome? (fun k => ts.find? fun t => decide (t.2 = k)) = none ∧ ∃ x3 x4 x5, δ' = [.im hd0, .im (thL ts), .im (Row.call c).dat, x3, x4, x5], ⟨rfl, _, _, _, rfl⟩, fun j d δ' hj ⟨hn, x3, x4, x5, e⟩ => ?_, fun δ' ⟨hn, x3, x4, x5, e⟩ => ?_⟩
    · subst e
      rw [List.getElem?_map] at hj
      obtain ⟨z, hz, rfl⟩ := Option.map_eq_some_iff.mp hj
      have step := takeNone (fun k => ts.find? fun t => decide (t.2 = k)) hz hn
      refine ⟨_, AsD.name (i := 4) nd, ?_⟩
      refine Run.cons (RunS.setP (i := 5) (d := thL (ts.filter fun t => decide (t.2 = z))) (EvP.cast (EvP.comp (own := [("_law_thing", 3)]) (ds := ts.map thD) (b := fun d => decide ((unTh d).2 = z)) (r := id) (f := fun d => [.im hd0, .im (thL ts), .im (Row.call c).dat, .im d, .im (.str z), x5]) rfl nd (blkOk_by (N := nRd) (sc := defScope (top 78)) (by decide +kernel)) (EvItP.list (.var (i := 1) rfl)) (fun d hd s H C cl fp => AsDV.name (i := 3) nd) (fun d hd s H C cl fp => ?_) (fun d hd _ s H C cl fp => .var (i := 3) rfl) (by rw [List.length_map]; omega)) ?_) ?_ nd)
      · obtain ⟨t, ht, rfl⟩ := List.mem_map.mp hd
        exact EvTP.cmp (EvP.ix (.var (i := 3) rfl) .int (Ix2.tup atI1)) (.var (i := 4) rfl) Cmp2.eqS
      · exact congrArg Dat.list (keptTh (fun t => decide (t.2 = z)) ts)
      · refine Run.one (RunS.if_ (EvTP.t (c := !((ts.filter fun t : Str × Str => decide (t.2 = z)).map thD).isEmpty) (EvTP.cmp (.var (i := 5) rfl) (.lst .nil) (Cmp2.neNil g)) ?_))
        rw [findHead] at step
        cases hf : ts.filter fun t => decide (t.2 = z) with
        | nil =>
          rw [hf] at step
          refine Run.nil ⟨?_, _, _, _, rfl⟩
          rw [List.take_add_one, hz, Option.toList_some, List.findSome?_append, hn]
          show (([z] : List Str).findSome? fun k => ts.find? fun t => decide (t.2 = k)) = none
          rw [List.findSome?_cons, findHead, hf]; rfl
        | cons t tl =>
          rw [hf] at step
          have tm : t ∈ ts := (List.mem_filter.mp (hf ▸ List.mem_cons_self : t ∈ ts.filter fun t => decide (t.2 = z))).1
          have ef : firstOf ts c = some t := step
          refine Run.one (RunS.retP (EvP.tup (ds := [thL (ts.filter fun x => !decide (x = t)), .str t.1]) (.cons (EvP.cast (EvP.comp (own := [("_law_thing", 3)]) (ds := ts.map thD) (b := fun d => !decide (unTh d = t)) (r := id) (f := fun d => [.im hd0, .im (thL ts), .im (Row.call c).dat, .im d, .im (.str z), .im (thL (t :: tl))]) rfl nd (blkOk_by (N := nRd) (sc := defScope (top 78)) (by decide +kernel)) (EvItP.list (.var (i := 1) rfl)) (fun d hd s H C cl fp => AsDV.name (i := 3) nd) (fun d hd s H C cl fp => ?_) (fun d hd _ s H C cl fp => .var (i := 3) rfl) (by rw [List.length_map]; omega)) ?_) (.cons (EvP.ix (EvP.ix (.var (i := 5) rfl) .int (Ix2.lst atI0)) .int (Ix2.tup atI0)) .nil)) (Nat.le_of_ble_eq_true rfl)) ?_)
          · obtain ⟨x, hx, rfl⟩ := List.mem_map.mp hd
            show EvTP _ _ _ (!decide (unTh (thD x) = t))
            rw [unTh_th, ← eqvTh]
            exact EvTP.cmp (.var (i := 3) rfl) (EvP.ix (.var (i := 5) rfl) .int (Ix2.lst atI0)) (Cmp2.neD g.blk (shapedTh (okt x hx)) (shapedTh (okt t tm)))
          · exact congrArg Dat.list (keptTh (fun x => !decide (x = t)) ts)
          · have e1 : stepT ts (.call c) = ts.filter fun x => !decide (x = t) := by
              show (match firstOf ts c with | none => ts | some t => ts.eraseIdx (ts.idxOf t)) = _
              rw [ef]; exact eraseNe nt t
            have e2 : toldT ts (.call c) = .str t.1 := by
              show nameOf (firstOf ts c) = _
              rw [ef]; rfl
            rw [e1, e2]; rfl
    · subst e
      rw [List.length_map, List.take_length] at hn
      have ef : firstOf ts c = none := hn
      refine Run.one (RunS.retP (EvP.tup (.cons (.var (i := 1) rfl) (.cons .non .nil)) (Nat.le_of_ble_eq_true rfl)) ?_)
      have e1 : stepT ts (.call c) = ts := by
        show (match firstOf ts c with | none => ts | some t => ts.eraseIdx (ts.idxOf t)) = _
        rw [ef]
      have e2 : toldT ts (.call c) = .none := by
        show nameOf (firstOf ts c) = _
        rw [ef]; rfl
      rw [e1, e2]; rfl
/-! ### _law_played -/
theorem goneT_sub (ts : List (Str × Str)) (c : List Str) : (goneT ts c).Sublist ts := by
  unfold goneT
  cases firstOf ts c with
  | none => exact List.Sublist.refl _
  | some t => exact List.eraseIdx_sublist _ _
theorem kAt_names : ∀ (l : List Row) (S : Kp), ((l.foldl stRow S).things.map (·.1)).Sublist (S.things.map (·.1) ++ l.filterMap Row.name)
  | [], S => by simp
  | .put n k :: l, S => by
    have := kAt_names l (stRow S (.put n k))
    show ((l.foldl stRow (stRow S (.put n k))).things.map (·.1)).Sublist _
    have e : (stRow S (.put n k)).things.map (·.1) ++ l.filterMap Row.name = S.things.map (·.1) ++ (Row.put n k :: l).filterMap Row.name := by
      show (S.things ++ [(n, k)]).map (·.1) ++ _ = _
      rw [List.filterMap_cons_some (show (Row.put n k).name = some n from rfl), List.map_append, List.append_assoc]; rfl
    rwa [e] at this
  | .call c :: l, S => by
    have := kAt_names l (stRow S (.call c))
    show ((l.foldl stRow (stRow S (.call c))).things.map (·.1)).Sublist _
    rw [List.filterMap_cons_none (show (Row.call c).name = none from rfl)]
    exact this.trans (List.Sublist.append_right ((goneT_sub _ _).map _) _)
theorem LogOk.thNd {h : Hs} {l : List Row} (o : LogOk h l) : (kAt l).things.Nodup := by
  have s := kAt_names l k0
  have nn : ((kAt l).things.map (·.1)).Nodup := o.2.sublist s
  exact (List.pairwise_map.mp nn).imp fun h e => h (by rw [e])
theorem LogOk.thOk {h : Hs} {l : List Row} (ok : HouseOk h) (o : LogOk h l) : ∀ t ∈ (kAt l).things, thOk t := fun t ht => by
  rcases things_put l k0 t ht with m | m
  · exact absurd m List.not_mem_nil
  · have z : t.2 ∈ h.ks ∧ NameOk t.1 := o.1 _ m
    exact ⟨z.2, ok.nm _ z.1⟩
def stsL (l : List Row) (j : Nat) : List Dat := (List.range (j + 1)).map fun i => thL (kAt (l.take i)).things
theorem stsL_succ (l : List Row) (j : Nat) : stsL l (j + 1) = stsL l j ++ [thL (kAt (l.take (j + 1))).things] := by
  unfold stsL
  rw [List.range_succ, List.map_append]; rfl
theorem stsL_len (l : List Row) (j : Nat) : (stsL l j).length = j + 1 := by
  unfold stsL
  rw [List.length_map, List.length_range]
theorem stsL_at (l : List Row) {i j : Nat} (h : i ≤ j) : (stsL l j)[i]? = some (thL (kAt (l.take i)).things) := by
  unfold stsL
  rw [List.getElem?_map, List.getElem?_range (by omega)]; rfl
theorem atNeg {α : Type} {l : List α} {x : α} : atI (l ++ [x]) (-1) = some x := by
  unfold atI
  have : ixN (l ++ [x]).length (-1) = some l.length := by
    unfold ixN
    rw [List.length_append, List.length_singleton]
    simp
    constructor <;> omega
  rw [this]
  show (l ++ [x])[l.length]? = some x
  simp
theorem stsL_last (l : List Row) (j : Nat) : atI (stsL l j) (-1) = some (thL (kAt (l.take j)).things) := by
  have : stsL l j = (List.range j).map (fun i => thL (kAt (l.take i)).things) ++ [thL (kAt (l.take j)).things] := by
    unfold stsL
    rw [List.range_succ, List.map_append]; rfl
  rw [this]; exact atNeg
def rPl : List Dat → Dat → Prop := fun ds d => ∃ (h : Hs) (l : List Row), HouseOk h ∧ LogOk h l ∧ l.length ≤ 900 ∧ ds = [h.dat, lgD l] ∧ d = .tuple [.list (stsL l l.length), .dict (toldKV l l.length)]
def nPl : List Str := ["_law_house", "_law_log", "_law_states", "_law_told", "_law_at", "_law_row", "_law_there", "_law_name"]
theorem scPl : FnScope nPl ["_law_house", "_law_log"] (defScope (top 79)) := ⟨rfl, rfl, rfl, by decide +kernel, rfl, by decide +kernel, by decide +kernel⟩
theorem okPl (B : Bs K mg) (F : Stands K mg "_law_played" (top 79)) (rd : Has P w K mg base 1 "_law_row_done" (PurSp K rRd)) : Has P w K mg base 2 "_law_played" (PurSp K rPl) := by
  refine Has.pur F B scPl (fun _ _ _ _ _ _ us hl => match us, hl with | [_, _], _ => rfl) (fun ds d ⟨_, _, _, _, _, e, _⟩ => by rw [e]; rfl) fun ds d ⟨h, l, ok, lo, hl, hds, hd⟩ f cdv A outer s H g hr => ?_
  subst hds hd
  have nd := scPl.nd
  refine Run.cons (RunS.par2 (i := 2) (j := 3) (Ev.newL (EvA.cons (EvP.i (.lst .nil) (EvA.nil ⟨(show (1 : Nat) ≤ sizeLine by decide), fun a => Ev.newK fun q => ?_⟩)))) rfl nd)
  refine Run.cons (RunS.for_ ((EvItP.enumT (.var (i := 1) rfl) (B.free _ (by decide))).i ?_) rfl)
  refine ⟨fun j δ' => ∃ x4 x5 x6 x7, δ' = [.im h.dat, .im (lgD l), .ow a (.d (.list (stsL l j))), .ow q (.d (.dict (toldKV l j))), x4, x5, x6, x7], ⟨_, _, _, _, rfl⟩, fun j d δ' hj ⟨x4, x5, x6, x7, e⟩ => ?_, fun δ' ⟨x4, x5, x6, x7, e⟩ => ?_⟩
  · subst e
    have hj1 : j < l.length := by
      have := (List.getElem?_eq_some_iff.mp hj).1
      rwa [enumD_length, List.length_map] at this
    have hr2 : l[j]? = some l[j] := List.getElem?_eq_getElem hj1
    generalize l[j] = r at hr2
    have hr3 : (l.map Row.dat)[j]? = some r.dat := by rw [List.getElem?_map, hr2]; rfl
    have ed := enumD_get hr3
    rw [ed] at hj
    cases hj
    have next : kAt (l.take (j + 1)) = stRow (kAt (l.take j)) r := foldTake stRow k0 hr2
    have nextT := toldN_succ l j
    have lot := lo.take j
    have room := (LogOk.room (h := h) hl j).2.1
    have eth : stepT (kAt (l.take j)).things r = (kAt (l.take (j + 1))).things := by rw [next]; cases r <;> rfl
    refine ⟨_, AsD.pair (i := 4) (j := 5) (d1 := .int (j : Nat)) (d2 := r.dat) rfl nd, ?_⟩
    refine Run.cons (RunS.asg (EvP.i (EvP.own g rd hr (.cons (.var (i := 0) rfl) (.cons (EvP.ownIx (i := 2) (q := a) rfl (EvP.neg .int) (stsL_last l j)) (.cons (.var (i := 5) rfl) .nil))) ⟨h.dat, (kAt (l.take j)).things, r, lot.thNd, room, lot.thOk ok, rfl, rfl⟩) ⟨_, AsD.pair (i := 6) (j := 7) (d1 := thL (stepT (kAt (l.take j)).things r)) (d2 := toldT (kAt (l.take j)).things r) rfl nd, ?_⟩))
    rw [eth]
    refine Run.cons (RunS.expr (Ev.append (i := 2) (q := a) (EvP.i (.var (i := 6) rfl) ⟨_, rfl, by rw [stsL_len]; omega, ?_⟩) ⟨_, rfl⟩))
    rw [← stsL_succ]
    cases r with
    | put n z =>
      refine Run.one (RunS.if_ (EvTP.t (c := decide (("put" : Str) = "call")) (EvTP.cmp (EvP.ix (.var (i := 5) rfl) .int (Ix2.tup atI0)) .str Cmp2.eqS) ?_))
      rw [if_neg (by decide)]
      have e0 : toldOne l j = none := by unfold toldOne; rw [hr2]
      rw [e0] at nextT
      refine Run.nil ⟨.im (.int (j : Nat)), .im (Row.put n z).dat, .im (thL (kAt (l.take (j + 1))).things), .im .none, ?_⟩
      unfold toldKV
      rw [nextT, Option.toList_none, List.append_nil]
      rfl
    | call cl =>
      refine Run.one (RunS.if_ (EvTP.t (c := decide (("call" : Str) = "call")) (EvTP.cmp (EvP.ix (.var (i := 5) rfl) .int (Ix2.tup atI0)) .str Cmp2.eqS) ?_))
      rw [if_pos (by decide)]
      have e0 : toldOne l j = some (j, firstOf (kAt (l.take j)).things cl) := by unfold toldOne; rw [hr2]
      rw [e0] at nextT
      have len := toldN_len l j
      refine Run.one (RunS.putK (i := 3) (q := q) (EvP.i (.var (i := 7) rfl) ⟨_, .int (j : Nat), .inl (j : Nat), rfl, .var (i := 4) rfl, .int _, ?_, ?_⟩) g)
      · unfold toldKV; rw [List.length_map]; omega
      · refine ⟨.im (.int (j : Nat)), .im (Row.call cl).dat, .im (thL (kAt (l.take (j + 1))).things), .im (toldT (kAt (l.take j)).things (.call cl)), ?_⟩
        have e1 : dputK (toldKV l j) (.inl (j : Nat)) (toldT (kAt (l.take j)).things (.call cl)) = toldKV l (j + 1) := by
          rw [dputK_new fun p hp => ?_]
          · unfold toldKV
            rw [nextT, List.map_append]; rfl
          · obtain ⟨x, hx, rfl⟩ := List.mem_map.mp hp
            refine ⟨.inl (x.1 : Nat), rfl, fun e => ?_⟩
            have := (toldN_lt hx).1
            have e2 : ((x.1 : Nat) : Int) = (j : Nat) := Sum.inl.inj e
            omega
        rw [← e1]
        rfl
  · subst e
    rw [enumD_length, List.length_map]
    exact Run.one (RunS.retI (EvI.tup (EvA.cons (Ev.toI (Ev.giveVar (i := 2) rfl ⟨_, rfl, EvA.cons (Ev.toI (Ev.giveVar (i := 3) rfl ⟨_, rfl, EvA.nil ⟨(show (2 : Nat) ≤ sizeLine by decide), rfl⟩⟩))⟩)))))
end
end K94
end

/-! text XF -/
section
set_option Elab.async false
set_option autoImplicit false
set_option linter.all false
set_option maxRecDepth 100000
set_option maxHeartbeats 4000000
/-! the law: cut, put together, a stretch drawn -/
namespace K94
open PySem PySem.Spec PyProof.Rows L2
section
variable {X : Cx} {δ : List Cell} {a e : Expr} {es : List Expr} {p pos : Pos} {Φ : Cell → List Cell → Prop} {Ω : Out → Prop} {ss : List Stmt} {Ψ : Dat → List Cell → Prop}
theorem EvI.takeB {k : Nat} {i : Nat} {y : Str} {q : Addr} {py : Pos} (g : Gx X) (tk : Has X.prog X.w X.K X.mg X.base k "_law_take" (BorSp X.K rTake)) (hr : Room k X.A) (h0 : ∃ o, δ[i]? = some (.ow q o))
    (ha : EvA X δ es fun ds δ1 => ∃ (B : Bag) (n : Nat), ds = [.int (n : Nat)] ∧ 1 ≤ n ∧ n ≤ 1000000 ∧ δ1[i]? = some (.ow q (bgO B)) ∧ ∀ (v : Nat) (B' : Bag), v < n → Ψ (.int (v : Nat)) (δ1.set i (.ow q (bgO B'))))
    (hn : NameAt X i y := by exact ⟨rfl, by first | exact Or.inl rfl | exact Or.inr (Or.inl rfl) | exact Or.inr (Or.inr rfl), by decide, by decide⟩)
    (hg : Gl X "_law_take" := by rfl) (he : starEach (.Name y py :: es) X.env = (false, eval (.Name y py) X.env) :: starEach es X.env := by rfl) (hpl : (backTo pos (starEach es X.env)).any (·.1) = false := by rfl) :
    EvI X δ (.Call (.Name "_law_take" p) (.Name y py :: es) [] pos) Ψ := by
  refine EvI.ownB (i := i) (q := q) g tk hr h0 ?_ hn hg (by decide) he hpl
  intro σ G H m Q qq
  refine ha σ G H m Q fun ds δ1 vs G1 H1 hh m1 r1 f1 => qq ds δ1 vs G1 H1 ?_ m1 r1 f1
  obtain ⟨B, n, hd, n1, n2, hb, hk⟩ := hh
  exact ⟨bgO B, fun d o' => ∃ (v : Nat) (B' : Bag), v < n ∧ d = .int (v : Nat) ∧ o' = bgO B', hb, ⟨B, n, n1, n2, rfl, hd, fun v B' hv => ⟨v, B', hv, rfl, rfl⟩⟩, fun d o' ⟨v, B', hv, e1, e2⟩ _ => by subst e1 e2; exact hk v B' hv⟩
theorem EvI.oneB {k : Nat} {i : Nat} {y : Str} {q : Addr} {py : Pos} (g : Gx X) (one : Has X.prog X.w X.K X.mg X.base k "_law_one" (BorSp X.K rOne)) (hr : Room k X.A) (h0 : ∃ o, δ[i]? = some (.ow q o))
    (ha : EvA X δ es fun ds δ1 => ∃ (B : Bag) (xs : List Dat), (ds = [.list xs] ∨ ds = [.tuple xs]) ∧ 1 ≤ xs.length ∧ xs.length ≤ 1000 ∧ δ1[i]? = some (.ow q (bgO B)) ∧ ∀ d ∈ xs, ∀ B' : Bag, Ψ d (δ1.set i (.ow q (bgO B'))))
    (hn : NameAt X i y := by exact ⟨rfl, by first | exact Or.inl rfl | exact Or.inr (Or.inl rfl) | exact Or.inr (Or.inr rfl), by decide, by decide⟩)
    (hg : Gl X "_law_one" := by rfl) (he : starEach (.Name y py :: es) X.env = (false, eval (.Name y py) X.env) :: starEach es X.env := by rfl) (hpl : (backTo pos (starEach es X.env)).any (·.1) = false := by rfl) :
    EvI X δ (.Call (.Name "_law_one" p) (.Name y py :: es) [] pos) Ψ := by
  refine EvI.ownB (i := i) (q := q) g one hr h0 ?_ hn hg (by decide) he hpl
  intro σ G H m Q qq
  refine ha σ G H m Q fun ds δ1 vs G1 H1 hh m1 r1 f1 => qq ds δ1 vs G1 H1 ?_ m1 r1 f1
  obtain ⟨B, xs, hd, n1, n2, hb, hk⟩ := hh
  exact ⟨bgO B, fun d o' => ∃ (B' : Bag), d ∈ xs ∧ o' = bgO B', hb, ⟨B, xs, n1, n2, rfl, hd, fun d hd B' => ⟨B', hd, rfl⟩⟩, fun d o' ⟨B', hv, e2⟩ _ => by subst e2; exact hk d hv B'⟩
theorem EvI.mixB {k : Nat} {i : Nat} {y : Str} {q : Addr} {py : Pos} (g : Gx X) (mx : Has X.prog X.w X.K X.mg X.base k "_law_mixed" (BorSp X.K rMix)) (hr : Room k X.A) (h0 : ∃ o, δ[i]? = some (.ow q o))
    (ha : EvA X δ es fun ds δ1 => ∃ (B : Bag) (xs : List Dat), ds = [.list xs] ∧ xs.length ≤ 900 ∧ δ1[i]? = some (.ow q (bgO B)) ∧ ∀ (ys : List Dat) (B' : Bag), ys.Perm xs → Ψ (.list ys) (δ1.set i (.ow q (bgO B'))))
    (hn : NameAt X i y := by exact ⟨rfl, by first | exact Or.inl rfl | exact Or.inr (Or.inl rfl) | exact Or.inr (Or.inr rfl), by decide, by decide⟩)
    (hg : Gl X "_law_mixed" := by rfl) (he : starEach (.Name y py :: es) X.env = (false, eval (.Name y py) X.env) :: starEach es X.env := by rfl) (hpl : (backTo pos (starEach es X.env)).any (·.1) = false := by rfl) :
    EvI X δ (.Call (.Name "_law_mixed" p) (.Name y py :: es) [] pos) Ψ := by
  refine EvI.ownB (i := i) (q := q) g mx hr h0 ?_ hn hg (by decide) he hpl
  intro σ G H m Q qq
  refine ha σ G H m Q fun ds δ1 vs G1 H1 hh m1 r1 f1 => qq ds δ1 vs G1 H1 ?_ m1 r1 f1
  obtain ⟨B, xs, hd, n2, hb, hk⟩ := hh
  exact ⟨bgO B, fun d o' => ∃ (ys : List Dat) (B' : Bag), ys.Perm xs ∧ d = .list ys ∧ o' = bgO B', hb, ⟨B, xs, n2, rfl, hd, fun ys B' hp => ⟨ys, B', hp, rfl, rfl⟩⟩, fun d o' ⟨ys, B', hv, e1, e2⟩ _ => by subst e1 e2; exact hk ys B' hv⟩
theorem EvI.rev {kk : Nat} {p1 p2 p3 : Pos} (h : EvI X δ a fun d δ' => ∃ as, d = .list as ∧ Ψ (.list as.reverse) δ') : EvI X δ (.Subscript a (.Slice none none (some (.UnaryOp .USub (.Constant (.int 1) kk p1) p2)) p3) pos) Ψ := fun σ G H m Q qq => by
  refine PE.w (pe_revL peW) (h σ G H m _ fun d δ' v G1 H1 ⟨as, ea, hk⟩ m1 r1 f1 => ?_)
  subst ea
  cases r1 with
  | @lst q xs _ gq rq =>
    refine ⟨q, xs, rfl, SqL.of (m1.wd.lstH gq), fun r nr => ?_⟩
    have ex := Ext.new (o := .lst xs.reverse) m1.wd nr
    exact qq _ _ _ _ _ hk (m1.ext ex (m1.wd.new nr)) (.lst upd_same (rq.rev.mono ex.gg)) (f1.trans (ex.up _))
end
section
variable {P : Program} {w : World} {K : PySem.W.Frag} {mg : Str → Option Value} {base : Heap} {k : Nat} {C : Addr}
/-! ### _law_cut -/
structure Cuts (n : Nat) (cs : List Nat) : Prop where
  up : cs.Pairwise (· < ·)
  zero : 0 ∈ cs
  last : n ∈ cs
  le : ∀ c ∈ cs, c ≤ n
  few : cs.length ≤ 8
def rCu : Ow → List Dat → (Dat → Ow → Prop) → Prop := fun o ds Φ => ∃ (B : Bag) (l : List Row), l.length ≤ 900 ∧ o = bgO B ∧ ds = [lgD l] ∧ ∀ (cs : List Nat) (B' : Bag), Cuts l.length cs → Φ (.list (cs.map fun c => .int (c : Nat))) (bgO B')
def nCu : List Str := ["_law_bag_here", "_law_log", "_law_some", "_law_k"]
theorem scCu : FnScope nCu ["_law_bag_here", "_law_log"] (defScope (top 82)) := ⟨rfl, rfl, rfl, by decide +kernel, rfl, by decide +kernel, by decide +kernel⟩
theorem okCu (B : Bs K mg) (F : Stands K mg "_law_cut" (top 82)) (tk : Has P w K mg base 1 "_law_take" (BorSp K rTake)) : Has P w K mg base 2 "_law_cut" (BorSp K rCu) := by
  refine Has.bor F B scCu (fun _ _ _ _ _ _ us hl => match us, hl with | [_, _], _ => rfl) (fun o ds d ⟨_, _, _, _, e, _⟩ => by rw [e]; rfl) fun a o ds Φ ⟨G, l, hl, ho, hds, hΦ⟩ f cdv A outer s H g hr => ?_
  subst ho hds
  have nd := scCu.nd
  refine Run.cons (RunS.setCompI (i := 2) (own := [("_law_k", 3)]) rfl nd (blkOk_by (N := nCu) (sc := defScope (top 82)) (by decide +kernel)) (EvIt.range1 (EvI.takeB (i := 0) (q := a) g tk hr ⟨_, rfl⟩ (EvAP.ea (.cons .int .nil) ⟨G, 6, rfl, by decide, by decide, rfl, fun n B1 hn => ⟨n, rfl, by omega, ?_⟩⟩)) (B.free _ (by decide))))
  refine ⟨by rw [rangeD_length]; omega, fun i acc δ' => ∃ (B' : Bag) (vs : List Nat) (x : Cell), vs.length = i ∧ (∀ v ∈ vs, v ≤ l.length) ∧ acc = vs.map (fun v => Dat.int (v : Nat)) ∧ δ' = [.ow a (bgO B'), .im (lgD l), .no, x], ⟨B1, [], .no, rfl, fun v hv => absurd hv List.not_mem_nil, rfl, rfl⟩, fun i d acc δ' hi ⟨B', vs, x, lv, hv, ea, ed⟩ => ?_, fun acc δ' ⟨B', vs, x, lv, hv, ea, ed⟩ => ?_⟩
  · subst ea ed
    refine ⟨_, fun s H C cl fp => ⟨AsDV.name (i := 3) nd, ?_⟩⟩
    refine EvI.takeB (i := 0) (q := a) g.blk tk hr ⟨_, rfl⟩ (EvAP.ea (.cons (d := .int ((l.length + 1 : Nat) : Int)) (EvP.bin (EvP.callB (fid := "len") (.cons (.var (i := 1) rfl) .nil) CallD.lenT (B.free _ (by decide))) .int (by rw [List.length_map]; exact Op2.add)) .nil) ⟨B', l.length + 1, rfl, by omega, by omega, rfl, fun v B2 hv2 => ?_⟩)
    refine ⟨B2, vs ++ [v], .im d, by rw [List.length_append, lv]; rfl, fun z hz => ?_, by rw [List.map_append]; rfl, rfl⟩
    rcases List.mem_append.mp hz with m | m
    · exact hv z m
    · rw [List.mem_singleton.mp m]; omega
  · subst ea ed
    rw [rangeD_length] at lv
    have len : l.length + 0 = (l.map Row.dat).length := by rw [List.length_map]; omega
    have t1000 : (1000 : Nat) ≤ sizeLine := by decide
    refine Run.one (RunS.retI (EvI.sortedSet (ns := vs.map (fun v => ((v : Nat) : Int)) ++ [0, (l.length : Int)]) g (EvP.cast (EvP.bin (.var (i := 2) rfl) (.lst (ds := [.int 0, .int (l.length : Nat)]) (.cons .int (.cons (EvP.cast (EvP.callB (fid := "len") (.cons (.var (i := 1) rfl) .nil) CallD.lenT (B.free _ (by decide))) (by rw [List.length_map])) .nil)) (Nat.le_of_ble_eq_true rfl)) (Op2.cat (by rw [List.length_map]; show vs.length + 2 ≤ sizeLine; omega))) (by rw [List.map_append, List.map_map]; rfl)) (by rw [List.length_append, List.length_map]; show vs.length + 2 ≤ 60; omega) (fun ms up hm => ?_) (B.free _ (by decide)) (B.free _ (by decide))))
    have nat : ∀ m ∈ ms, 0 ≤ m ∧ m ≤ l.length := fun m h => by
      rcases List.mem_append.mp ((hm m).mp h) with z | z
      · obtain ⟨v, hv', rfl⟩ := List.mem_map.mp z
        have := hv v hv'
        omega
      · simp only [List.mem_cons, List.not_mem_nil, or_false] at z
        rcases z with rfl | rfl <;> omega
    have e0 : ms.map Dat.int = (ms.map Int.toNat).map fun c => .int (c : Nat) := by
      rw [List.map_map]
      refine List.map_congr_left fun m h => ?_
      have := (nat m h).1
      show Dat.int m = Dat.int ((m.toNat : Nat) : Int)
      rw [Int.toNat_of_nonneg this]
    have inN : ∀ n : Nat, ((n : Nat) : Int) ∈ ms → n ∈ ms.map Int.toNat := fun n h => List.mem_map.mpr ⟨_, h, by simp⟩
    rw [e0]
    refine ⟨_, bgO B', rfl, rfl, fun _ => rfl, hΦ _ B' ⟨?_, ?_, ?_, ?_, ?_⟩⟩
    · refine List.pairwise_map.mpr (List.Pairwise.imp_of_mem (fun {a b} ha hb hab => ?_) up)
      have := (nat a ha).1
      have := (nat b hb).1
      omega
    · exact inN 0 ((hm 0).mpr (List.mem_append_right _ (by simp)))
    · exact inN l.length ((hm _).mpr (List.mem_append_right _ (by simp)))
    · intro c hc
      obtain ⟨m, h, rfl⟩ := List.mem_map.mp hc
      have := (nat m h).2
      omega
    · rw [List.length_map]
      have := nodupLen (l := ms) (m := vs.map (fun v => ((v : Nat) : Int)) ++ [0, (l.length : Int)]) (up.imp fun h => by omega) (fun x hx => (hm x).mp hx)
      rw [List.length_append, List.length_map] at this
      have : ms.length ≤ vs.length + 2 := this
      omega
/-! ### _law_put_together -/
def JoinOk (h : Hs) : Prop := ∀ s1 s2 : List Deed, (∀ D ∈ s1, DeedOk h D) → (∀ D ∈ s2, DeedOk h D) → brfD h (jn h (ledAll h s1) (ledAll h s2)) = brfD h (ledAll h (s1 ++ s2))
def rPt : Ow → List Dat → (Dat → Ow → Prop) → Prop := fun o ds Φ => ∃ (B : Bag) (h : Hs) (ss : List (List Deed)), Small h ∧ h.ks.Nodup ∧ Nest h ∧ JoinOk h ∧ 1 ≤ ss.length ∧ ss.length ≤ 100 ∧ (∀ s ∈ ss, ∀ D ∈ s, DeedOk h D) ∧ o = bgO B ∧ ds = [h.dat, .list (ss.map fun s => brfD h (ledAll h s))] ∧ ∀ B' : Bag, Φ (brfD h (ledAll h ss.flatten)) (bgO B')
def nPt : List Str := ["_law_bag_here", "_law_house", "_law_briefs", "_law_found", "_law_turn", "_law_at"]
theorem scPt : FnScope nPt ["_law_bag_here", "_law_house", "_law_briefs"] (defScope (top 83)) := ⟨rfl, rfl, rfl, by decide +kernel, rfl, by decide +kernel, by decide +kernel⟩
theorem okPt (B : Bs K mg) (F : Stands K mg "_law_put_together" (top 83)) (tk : Has P w K mg base 1 "_law_take" (BorSp K rTake)) (jo : Has P w K mg base 6 "joined" (PurSp K rJ)) : Has P w K mg base 7 "_law_put_together" (BorSp K rPt) := by
  refine Has.bor F B scPt (fun _ _ _ _ _ _ us hl => match us, hl with | [_, _, _], _ => rfl) (fun o ds d ⟨_, _, _, _, _, _, _, _, _, _, _, e, _⟩ => by rw [e]; rfl) fun a o ds Φ ⟨G, h, ss, sm, nk, hn, jk, l1, l2, hok, ho, hds, hΦ⟩ f cdv A outer s H g hr => ?_
  subst ho hds
  have nd := scPt.nd
  have t1000 : (1000 : Nat) ≤ sizeLine := by decide
  refine Run.cons (RunS.setP (i := 3) (EvP.callT (T := "list") (.cons (.var (i := 2) rfl) .nil) CallD.listL (B.free _ (by decide))) ?_ nd)
  refine Run.cons (RunS.for_ ((EvItP.range1 (n := ss.length - 1) (EvP.cast (EvP.bin (EvP.callB (fid := "len") (.cons (.var (i := 2) rfl) .nil) CallD.lenL (B.free _ (by decide))) .int Op2.sub) (by rw [List.length_map]; exact congrArg Dat.int (by omega))) (by omega) (B.free _ (by decide))).i ?_) rfl)
  refine ⟨fun j δ' => ∃ (B' : Bag) (tt : List (List Deed)) (x4 x5 : Cell), tt.length + j = ss.length ∧ tt.flatten = ss.flatten ∧ (∀ s ∈ tt, ∀ D ∈ s, DeedOk h D) ∧ δ' = [.ow a (bgO B'), .im h.dat, .im (.list (ss.map fun s => brfD h (ledAll h s))), .im (.list (tt.map fun s => brfD h (ledAll h s))), x4, x5], ⟨G, ss, .no, .no, rfl, rfl, hok, rfl⟩, fun j d δ' hj ⟨B', tt, x4, x5, lt, ft, kt, e⟩ => ?_, fun δ' ⟨B', tt, x4, x5, lt, ft, kt, e⟩ => ?_⟩
  · subst e
    have hj1 : j < ss.length - 1 := by
      have := (List.getElem?_eq_some_iff.mp hj).1
      rwa [rangeD_length] at this
    refine ⟨_, AsD.name (i := 4) nd, ?_⟩
    refine Run.cons (RunS.set (i := 5) (EvI.ev (Ψ := fun d' δ' => ∃ (v : Nat) (B2 : Bag), v < tt.length - 1 ∧ d' = .int (v : Nat) ∧ δ' = [.ow a (bgO B2), .im h.dat, .im (.list (ss.map fun s => brfD h (ledAll h s))), .im (.list (tt.map fun s => brfD h (ledAll h s))), .im d, x5]) (EvI.takeB (i := 0) (q := a) g tk (hr.mono (by decide)) ⟨_, rfl⟩ (EvAP.ea (.cons (d := .int ((tt.length - 1 : Nat) : Int)) (EvP.cast (EvP.bin (EvP.callB (fid := "len") (.cons (.var (i := 3) rfl) .nil) CallD.lenL (B.free _ (by decide))) .int Op2.sub) (by rw [List.length_map]; exact congrArg Dat.int (by omega))) .nil) ⟨B', tt.length - 1, rfl, by omega, by omega, rfl, fun v B2 hv => ⟨v, B2, hv, rfl, rfl⟩⟩)) fun d' δ' ⟨v, B2, hv, e1, e2⟩ => ?_) nd)
    subst e1 e2
    have h1 : tt[v]? = some tt[v] := List.getElem?_eq_getElem (by omega)
    have h2 : tt[v + 1]? = some tt[v + 1] := List.getElem?_eq_getElem (by omega)
    have split : tt = tt.take v ++ tt[v] :: tt[v + 1] :: tt.drop (v + 2) := by
      rw [← List.drop_eq_getElem_cons, ← List.drop_eq_getElem_cons, List.take_append_drop]
    have m1 : tt[v] ∈ tt := List.getElem_mem _
    have m2 : tt[v + 1] ∈ tt := List.getElem_mem _
    generalize tt[v] = s1 at h1 split m1
    generalize tt[v + 1] = s2 at h2 split m2
    have lm : (tt.map fun s => brfD h (ledAll h s)).length = tt.length := List.length_map _
    refine Run.one (RunS.setP (i := 3) (d := .list ((tt.take v ++ [s1 ++ s2] ++ tt.drop (v + 2)).map fun s => brfD h (ledAll h s))) (EvP.cast (EvP.bin (EvP.bin (EvP.cast (EvP.slice (u := some (v : Int)) (.var (i := 3) rfl) EvOP.none_ (EvOP.some_ (.var (i := 5) rfl)) Sl2.lst) (congrArg Dat.list (cutTo _ (by omega)))) (.lst (ds := [brfD h (ledAll h (s1 ++ s2))]) (.cons (EvP.cast (EvP.own g jo hr (.cons (.var (i := 1) rfl) (.cons (EvP.ix (.var (i := 3) rfl) (.var (i := 5) rfl) (Ix2.lst (d := brfD h (ledAll h s1)) (atIn (by rw [List.getElem?_map, h1]; rfl)))) (.cons (EvP.ix (.var (i := 3) rfl) (EvP.bin (.var (i := 5) rfl) .int Op2.add) (Ix2.lst (d := brfD h (ledAll h s2)) (atIn (j := v + 1) (by rw [List.getElem?_map, h2]; rfl)))) .nil))) ⟨h, ledAll h s1, ledAll h s2, sm, nk, hn, rfl, rfl⟩) (jk s1 s2 (kt s1 m1) (kt s2 m2))) .nil) (Nat.le_of_ble_eq_true rfl)) (Op2.cat ?_)) (EvP.cast (EvP.slice (l := some ((v + 2 : Nat) : Int)) (.var (i := 3) rfl) (EvOP.some_ (EvP.bin (.var (i := 5) rfl) .int Op2.add)) EvOP.none_ Sl2.lst) (congrArg Dat.list (cutFrom _ (by omega)))) (Op2.cat ?_)) ?_) ?_ nd)
    · rw [List.length_take, lm]; show _ + 1 ≤ _; omega
    · rw [List.length_append, List.length_take, List.length_drop, lm]; show _ + 1 + _ ≤ _; omega
    · rw [List.map_append, List.map_append, List.map_take, List.map_drop]; rfl
    · refine ⟨B2, tt.take v ++ [s1 ++ s2] ++ tt.drop (v + 2), .im d, .im (.int (v : Nat)), ?_, ?_, fun s hs D hD => ?_, rfl⟩
      · rw [List.length_append, List.length_append, List.length_take, List.length_drop]; show _ + 1 + _ + _ = _; omega
      · rw [← ft]
        conv => rhs; rw [split]
        simp
      · rcases List.mem_append.mp hs with hs | hs
        · rcases List.mem_append.mp hs with hs | hs
          · exact kt s (List.mem_of_mem_take hs) D hD
          · rw [List.mem_singleton.mp hs] at hD
            rcases List.mem_append.mp hD with hD | hD
            · exact kt s1 m1 D hD
            · exact kt s2 m2 D hD
        · exact kt s (List.mem_of_mem_drop hs) D hD
  · subst e
    rw [rangeD_length] at lt
    have l1' : tt.length = 1 := by omega
    obtain ⟨t0, rfl⟩ := List.length_eq_one_iff.mp l1'
    have e0 : ss.flatten = t0 := by rw [← ft]; simp
    rw [e0] at hΦ
    exact Run.one (RunS.retP (EvP.ix (.var (i := 3) rfl) .int (Ix2.lst atI0)) ⟨_, bgO B', rfl, rfl, fun _ => rfl, hΦ B'⟩)
end
end K94
end

/-! text XG -/
section
set_option Elab.async false
set_option autoImplicit false
set_option linter.all false
set_option maxRecDepth 100000
set_option maxHeartbeats 4000000
/-! the law: a stretch drawn; names of things; a log -/
namespace K94
open PySem PySem.Spec PyProof.Rows L2
theorem permMap {α β : Type} (f : α → β) {es m : List β} (h : es.Perm m) : ∀ l : List α, m = l.map f → ∃ l' : List α, es = l'.map f ∧ l'.Perm l := by
  induction h with
  | nil => intro l e; cases l with
    | nil => exact ⟨[], rfl, .refl _⟩
    | cons a l => cases e
  | cons x p ih =>
    intro l e
    cases l with
    | nil => cases e
    | cons a l =>
      obtain ⟨e1, e2⟩ := List.cons.inj e
      obtain ⟨l', h1, h2⟩ := ih l e2
      exact ⟨a :: l', by rw [h1, e1]; rfl, h2.cons a⟩
  | swap x y r =>
    intro l e
    cases l with
    | nil => cases e
    | cons a l =>
      obtain ⟨e1, e2⟩ := List.cons.inj e
      cases l with
      | nil => cases e2
      | cons b l =>
        obtain ⟨e3, e4⟩ := List.cons.inj e2
        exact ⟨b :: a :: l, by rw [e1, e3, e4]; rfl, .swap a b l⟩
  | trans p q ih1 ih2 =>
    intro l e
    obtain ⟨l2, h1, h2⟩ := ih2 l e
    obtain ⟨l3, h3, h4⟩ := ih1 l2 h1
    exact ⟨l3, h3, h4.trans h2⟩
theorem deedDepth (D : Deed) : D.dat.py.depth ≤ 2 := by
  cases D with
  | put k => show max 0 (max 0 0) + 1 ≤ 2; decide
  | call c =>
    show max 0 (max (PyData.depthAll (pyAll (dS c)) + 1) 0) + 1 ≤ 2
    rw [depthS]; decide
theorem deedLike (st : List Deed) : DeedLike ((st.map Deed.dat).map Dat.py) := fun d hd => by
  obtain ⟨_, h1, rfl⟩ := List.mem_map.mp hd
  obtain ⟨D, hD, rfl⟩ := List.mem_map.mp h1
  have ne : ("call" : Str) ≠ "put" := by decide
  cases D with
  | put k =>
    refine ⟨"put", .str k, rfl, fun _ _ => trivial, fun d' hd' z' e => ?_⟩
    obtain ⟨_, h2, rfl⟩ := List.mem_map.mp hd'
    obtain ⟨D', hD', rfl⟩ := List.mem_map.mp h2
    cases D' with
    | put k' =>
      have : PyData.tuple [.str "put", .str k'] = .tuple [.str "put", z'] := e
      injection this with this
      injection this with _ this
      injection this with this
      subst this; rfl
    | call c' =>
      have : PyData.tuple [.str "call", .tuple (pyAll (dS c'))] = .tuple [.str "put", z'] := e
      injection this with this
      injection this with this
      injection this with this
      exact absurd this ne
  | call c =>
    refine ⟨"call", .tuple (pyAll (dS c)), rfl, fun _ _ => trivial, fun d' hd' z' e => ?_⟩
    obtain ⟨_, h2, rfl⟩ := List.mem_map.mp hd'
    obtain ⟨D', hD', rfl⟩ := List.mem_map.mp h2
    cases D' with
    | put k' =>
      have : PyData.tuple [.str "put", .str k'] = .tuple [.str "call", z'] := e
      injection this with this
      injection this with this
      injection this with this
      exact absurd this.symm ne
    | call c' =>
      have : PyData.tuple [.str "call", .tuple (pyAll (dS c'))] = .tuple [.str "call", z'] := e
      injection this with this
      injection this with _ this
      injection this with this
      subst this
      exact alikeS c c'
section
variable {P : Program} {w : World} {K : PySem.W.Frag} {mg : Str → Option Value} {base : Heap} {k : Nat} {C : Addr}
/-! ### _law_stretch -/
def rSr : Ow → List Dat → (Dat → Ow → Prop) → Prop := fun o ds Φ => ∃ (B : Bag) (h : Hs) (n : Nat), HouseOk h ∧ n ≤ 200 ∧ o = bgO B ∧ ds = [h.dat, .int (n : Nat)] ∧ ∀ (st : List Deed) (B' : Bag), st.length ≤ n → (∀ D ∈ st, DeedOk h D) → Φ (stD st) (bgO B')
def nSr : List Str := ["_law_bag_here", "_law_house", "_law_most", "_law_many", "_law_share", "_law_found", "_law_turn", "_law_is_put"]
theorem scSr : FnScope nSr ["_law_bag_here", "_law_house", "_law_most"] (defScope (top 74)) := ⟨rfl, rfl, rfl, by decide +kernel, rfl, by decide +kernel, by decide +kernel⟩
theorem okSr (B : Bs K mg) (F : Stands K mg "_law_stretch" (top 74)) (tk : Has P w K mg base 1 "_law_take" (BorSp K rTake)) (one : Has P w K mg base 2 "_law_one" (BorSp K rOne)) : Has P w K mg base 3 "_law_stretch" (BorSp K rSr) := by
  refine Has.bor F B scSr (fun _ _ _ _ _ _ us hl => match us, hl with | [_, _, _], _ => rfl) (fun o ds d ⟨_, _, _, _, _, _, e, _⟩ => by rw [e]; rfl) fun a o ds Φ ⟨G, h, n, ok, hn, ho, hds, hΦ⟩ f cdv A outer s H g hr => ?_
  subst ho hds
  have nd := scSr.nd
  have two : (2 : Nat) ≤ sizeLine := by decide
  refine Run.cons (RunS.par2 (i := 3) (j := 4) (EvI.ev (Ψ := fun d δ' => ∃ (v : Nat) (B1 : Bag), v < n + 1 ∧ d = .int (v : Nat) ∧ δ' = [.ow a (bgO B1), .im h.dat, .im (.int (n : Nat)), .no, .no, .no, .no, .no]) (EvI.takeB (i := 0) (q := a) g tk (hr.mono (by decide)) ⟨_, rfl⟩ (EvAP.ea (.cons (d := .int ((n + 1 : Nat) : Int)) (EvP.bin (.var (i := 2) rfl) .int Op2.add) .nil) ⟨G, n + 1, rfl, by omega, by omega, rfl, fun v B1 hv => ⟨v, B1, hv, rfl, rfl⟩⟩)) fun d δ' ⟨m, B1, hm, e1, e2⟩ => ?_) rfl nd)
  subst e1 e2
  refine EvI.ev (Ψ := fun d δ' => ∃ (c : Int) (B2 : Bag), d = .int c ∧ δ' = [.ow a (bgO B2), .im h.dat, .im (.int (n : Nat)), .no, .no, .no, .no, .no]) (EvI.oneB (i := 0) (q := a) g one hr ⟨_, rfl⟩ (EvAP.ea (.cons (EvP.lst (ds := [.int 3, .int 3, .int 5, .int 2, .int 4]) (.cons .int (.cons .int (.cons .int (.cons .int (.cons .int .nil))))) (Nat.le_of_ble_eq_true rfl)) .nil) ⟨B1, _, .inl rfl, by simp, by simp, rfl, fun d hd B2 => ?_⟩)) fun d δ' ⟨c, B2, e1, e2⟩ => ?_
  · simp only [List.mem_cons, List.not_mem_nil, or_false] at hd
    rcases hd with rfl | rfl | rfl | rfl | rfl <;> exact ⟨_, B2, rfl, rfl⟩
  subst e1 e2
  refine Run.cons (RunS.set (i := 5) (Ev.newL (.nil ⟨Nat.zero_le _, fun q => ?_⟩)) nd)
  refine Run.cons (RunS.for_ ((EvItP.range1 (n := m) (.var (i := 3) rfl) (by omega) (B.free _ (by decide))).i ?_) rfl)
  refine ⟨fun j δ' => ∃ (B' : Bag) (st : List Deed) (x6 x7 : Cell), st.length = j ∧ (∀ D ∈ st, DeedOk h D) ∧ δ' = [.ow a (bgO B'), .im h.dat, .im (.int (n : Nat)), .im (.int (m : Nat)), .im (.int c), .ow q (.d (.list (st.map Deed.dat))), x6, x7], ⟨B2, [], .no, .no, rfl, fun D hD => absurd hD List.not_mem_nil, rfl⟩, fun j d δ' hj ⟨B', st, x6, x7, ls, hst, e⟩ => ?_, fun δ' ⟨B', st, x6, x7, ls, hst, e⟩ => ?_⟩
  · subst e
    have hj1 : j < m := by
      have := (List.getElem?_eq_some_iff.mp hj).1
      rwa [rangeD_length] at this
    refine ⟨_, AsD.name (i := 6) nd, ?_⟩
    refine Run.cons (RunS.set (i := 7) (EvI.ev (Ψ := fun d' δ' => ∃ (b : Bool) (B3 : Bag), d' = .bool b ∧ δ' = [.ow a (bgO B3), .im h.dat, .im (.int (n : Nat)), .im (.int (m : Nat)), .im (.int c), .ow q (.d (.list (st.map Deed.dat))), .im d, x7]) (EvI.cmp (EvI.takeB (i := 0) (q := a) g tk (hr.mono (by decide)) ⟨_, rfl⟩ (EvAP.ea (.cons .int .nil) ⟨B', 6, rfl, by decide, by decide, rfl, fun v B3 hv => EvP.i (.var (i := 4) rfl) ⟨_, Cmp2.lt, _, B3, rfl, rfl⟩⟩))) fun d' δ' ⟨b, B3, e1, e2⟩ => ?_) nd)
    subst e1 e2
    have fin : ∀ (D : Deed) (B4 : Bag), DeedOk h D → turnPost (seqPost (CxD P w K mg base nSr "_law_stretch" (top 74) f cdv A outer s H) ((defBody (top 74)).drop 3) (BorOut a (bgO G) Φ)) (fun δ' => ∃ (B' : Bag) (st : List Deed) (x6 x7 : Cell), st.length = j + 1 ∧ (∀ D ∈ st, DeedOk h D) ∧ δ' = [.ow a (bgO B'), .im h.dat, .im (.int (n : Nat)), .im (.int (m : Nat)), .im (.int c), .ow q (.d (.list (st.map Deed.dat))), x6, x7]) (.nx [.ow a (bgO B4), .im h.dat, .im (.int (n : Nat)), .im (.int (m : Nat)), .im (.int c), .ow q (.d (.list (st.map Deed.dat ++ [D.dat]))), .im d, .im (.bool b)]) := fun D B4 hD => by
      refine ⟨B4, st ++ [D], .im d, .im (.bool b), by rw [List.length_append, ls]; rfl, fun z hz => ?_, by rw [List.map_append]; rfl⟩
      rcases List.mem_append.mp hz with m | m
      · exact hst z m
      · rw [List.mem_singleton.mp m]; exact hD
    refine Run.one (RunS.expr (Ev.append (i := 5) (q := q) (EvI.ifExp (EvTP.t (c := b) (EvTP.val (.var (i := 7) rfl)) ?_)) ⟨_, rfl⟩))
    cases b with
    | true =>
      refine EvI.tup (EvA.cons (EvP.i .str (EvA.cons (EvI.oneB (i := 0) (q := a) g one hr ⟨_, rfl⟩ (EvAP.ea (.cons (EvP.ix (.var (i := 1) rfl) .int (Ix2.tup atI0)) .nil) ⟨B3, dS h.ks, .inr rfl, by rw [List.length_map]; exact ok.k1, by rw [List.length_map]; have := ok.k6; omega, rfl, fun d' hd B4 => ?_⟩)))))
      obtain ⟨z, hz, rfl⟩ := List.mem_map.mp hd
      refine EvA.nil ⟨two, _, rfl, by rw [List.length_map]; omega, fin (.put z) B4 hz⟩
    | false =>
      refine EvI.tup (EvA.cons (EvP.i .str (EvA.cons (EvI.oneB (i := 0) (q := a) g one hr ⟨_, rfl⟩ (EvAP.ea (.cons (EvP.ix (.var (i := 1) rfl) .int (Ix2.tup atI1)) .nil) ⟨B3, h.cs.map cD, .inr rfl, by rw [List.length_map]; exact ok.c1, by rw [List.length_map]; have := ok.c8; omega, rfl, fun d' hd B4 => ?_⟩)))))
      obtain ⟨z, hz, rfl⟩ := List.mem_map.mp hd
      refine EvA.nil ⟨two, _, rfl, by rw [List.length_map]; omega, fin (.call z) B4 hz⟩
  · subst e
    rw [rangeD_length] at ls
    refine Run.give (i := 5) rfl ?_
    refine Run.cons (RunS.if_ (EvT.cmp (EvI.takeB (i := 0) (q := a) g tk (hr.mono (by decide)) ⟨_, rfl⟩ (EvAP.ea (.cons .int .nil) ⟨B', 8, rfl, by decide, by decide, rfl, fun v B3 hv => EvP.i .int ⟨_, Cmp2.eqI, ?_⟩⟩))))
    have fin : ∀ st' : List Deed, st'.Perm st → Run (CxD P w K mg base nSr "_law_stretch" (top 74) f cdv A outer s H) [.ow a (bgO B3), .im h.dat, .im (.int (n : Nat)), .im (.int (m : Nat)), .im (.int c), .im (.list (st'.map Deed.dat)), x6, x7] ((defBody (top 74)).drop 4) (BorOut a (bgO G) Φ) := fun st' hp => by
      refine Run.one (RunS.retP (EvP.callT (T := "tuple") (.cons (.var (i := 5) rfl) .nil) CallD.tupL (B.free _ (by decide))) ⟨_, bgO B3, rfl, rfl, fun _ => rfl, hΦ st' B3 (by rw [hp.length_eq]; omega) fun D hD => hst D (hp.mem_iff.mp hD)⟩)
    split
    · refine Run.one (RunS.set (i := 5) (EvI.ev (Ψ := fun d' δ' => ∃ st' : List Deed, st'.Perm st ∧ d' = .list (st'.map Deed.dat) ∧ δ' = [.ow a (bgO B3), .im h.dat, .im (.int (n : Nat)), .im (.int (m : Nat)), .im (.int c), .im (.list (st.map Deed.dat)), x6, x7]) (EvI.rev (EvI.sortedDeeds g (.var (i := 5) rfl) (deedLike st) (fun d hd => ?_) (by rw [List.length_map]; omega) (fun es hes => ?_) (B.free _ (by decide)))) fun d' δ' ⟨st', hp, e1, e2⟩ => ?_) nd)
      · obtain ⟨D, _, rfl⟩ := List.mem_map.mp hd
        have := deedDepth D; omega
      · obtain ⟨st', e1, hp⟩ := permMap Deed.dat hes st rfl
        exact ⟨es, rfl, st'.reverse, (List.reverse_perm st').trans hp, by rw [e1, List.map_reverse], rfl⟩
      · subst e1 e2
        exact fin st' hp
    · exact Run.nil (fin st (.refl _))
end
end K94
end

/-! text XH -/
section
set_option Elab.async false
set_option autoImplicit false
set_option linter.all false
set_option maxRecDepth 100000
set_option maxHeartbeats 4000000
/-! the law: names of things, a log drawn -/
namespace K94
open PySem PySem.Spec PyProof.Rows L2
def nmL (n : Nat) : Str := if n < 26 then sg n else sg ((n - 26) / 26) ++ sg ((n - 26) % 26)
def nmZ (n : Nat) : Str := if n % 9 = 4 then nmL n ++ "zzzz" else nmL n
def okB (z : Str) : Bool := decide (1 ≤ z.length) && decide (z.length ≤ 6) && z.cps.toList.all fun c => decide (c ∈ abc.cps.toList)
theorem okB_ok {z : Str} (h : okB z = true) : NameOk z := by
  unfold okB at h
  rw [Bool.and_eq_true, Bool.and_eq_true] at h
  exact ⟨of_decide_eq_true h.1.1, of_decide_eq_true h.1.2, fun c hc => of_decide_eq_true (List.all_eq_true.mp h.2 c hc)⟩
def dcN (z : Str) : Nat :=
  let l := z.cps.toList
  match (if l.length > 2 then l.take (l.length - 4) else l) with
  | [a] => a - 97
  | [a, b] => 26 + (a - 97) * 26 + (b - 97)
  | _ => 0
theorem nmAll : ((List.range 702).all fun n => okB (nmZ n) && decide (dcN (nmZ n) = n)) = true := by decide +kernel
theorem nmOk {n : Nat} (h : n < 702) : NameOk (nmZ n) := by
  have := List.all_eq_true.mp nmAll n (List.mem_range.mpr h)
  rw [Bool.and_eq_true] at this
  exact okB_ok this.1
theorem nmInj {m n : Nat} (hm : m < 702) (hn : n < 702) (e : nmZ m = nmZ n) : m = n := by
  have h1 := List.all_eq_true.mp nmAll m (List.mem_range.mpr hm)
  have h2 := List.all_eq_true.mp nmAll n (List.mem_range.mpr hn)
  rw [Bool.and_eq_true] at h1 h2
  have e1 := of_decide_eq_true h1.2
  have e2 := of_decide_eq_true h2.2
  rw [← e1, ← e2, e]
def thg (sh k : Nat) : Str := nmZ ((k * 577 + sh) % 702)
theorem thgOk (sh k : Nat) : NameOk (thg sh k) := nmOk (Nat.mod_lt _ (by decide))
theorem thgInj {sh i j : Nat} (hi : i < 702) (hj : j < 702) (e : thg sh i = thg sh j) : i = j := by
  have := nmInj (Nat.mod_lt _ (by decide)) (Nat.mod_lt _ (by decide)) e
  omega
theorem abcGet {n : Nat} (h : n < 26) : abc.cps.toList[n]? = some (abc.cps.toList.getD n 0) := by
  have hl : n < abc.cps.toList.length := by rw [abcLen]; exact h
  rw [List.getD_eq_getElem?_getD, List.getElem?_eq_getElem hl]; rfl
theorem sgLen (n : Nat) : (sg n).length = 1 := rfl
theorem nmL_len (n : Nat) : (nmL n).length ≤ 2 := by
  unfold nmL
  split
  · exact Nat.le_succ 1
  · rw [strLen]; exact Nat.le_refl 2
def rowN (nm : Nat → Str) (i : Nat) : Deed → Row
  | .put k => .put (nm i) k
  | .call c => .call c
def lnStep (nm : Nat → Str) (acc : List Row) (D : Deed) : List Row := acc ++ [rowN nm acc.length D]
theorem ln_facts (nm : Nat → Str) : ∀ (st : List Deed) (acc : List Row), (st.foldl (lnStep nm) acc).map Row.deed = acc.map Row.deed ++ st ∧ (st.foldl (lnStep nm) acc).length = acc.length + st.length
  | [], acc => by simp
  | D :: st, acc => by
    obtain ⟨h1, h2⟩ := ln_facts nm st (lnStep nm acc D)
    refine ⟨?_, ?_⟩
    · show (st.foldl (lnStep nm) (lnStep nm acc D)).map Row.deed = _
      rw [h1]
      unfold lnStep
      rw [List.map_append, List.append_assoc]
      refine congrArg _ ?_
      cases D <;> rfl
    · show (st.foldl (lnStep nm) (lnStep nm acc D)).length = _
      rw [h2]
      unfold lnStep
      rw [List.length_append, List.length_cons]
      show acc.length + 1 + st.length = acc.length + (st.length + 1)
      omega
theorem ln_names {nm : Nat → Str} {N : Nat} (inj : ∀ i j, i < N → j < N → nm i = nm j → i = j) : ∀ (st : List Deed) (acc : List Row), acc.length + st.length ≤ N → (acc.filterMap Row.name).Nodup → (∀ z ∈ acc.filterMap Row.name, ∃ i, i < acc.length ∧ z = nm i) → ((st.foldl (lnStep nm) acc).filterMap Row.name).Nodup
  | [], acc, _, h, _ => h
  | D :: st, acc, hl, h, hz => by
    have hl' : acc.length + (st.length + 1) ≤ N := hl
    have e1 : (lnStep nm acc D).length = acc.length + 1 := by unfold lnStep; rw [List.length_append]; rfl
    refine ln_names inj st (lnStep nm acc D) (by rw [e1]; omega) ?_ ?_
    · unfold lnStep
      rw [List.filterMap_append]
      cases D with
      | put k =>
        refine List.nodup_append.mpr ⟨h, by simp [rowN, Row.name], fun a ha b hb => ?_⟩
        have hb' : b = nm acc.length := by simpa [rowN, Row.name] using hb
        obtain ⟨i, hi, rfl⟩ := hz a ha
        intro e
        rw [hb'] at e
        have := inj i acc.length (by omega) (by omega) e
        omega
      | call c =>
        have : ([rowN nm acc.length (.call c)] : List Row).filterMap Row.name = [] := rfl
        rw [this, List.append_nil]; exact h
    · intro z hz'
      rw [e1]
      unfold lnStep at hz'
      rw [List.filterMap_append] at hz'
      rcases List.mem_append.mp hz' with m | m
      · obtain ⟨i, hi, e⟩ := hz z m
        exact ⟨i, by omega, e⟩
      · cases D with
        | put k =>
          have hb' : z = nm acc.length := by simpa [rowN, Row.name] using m
          exact ⟨_, by omega, hb'⟩
        | call c => exact absurd m List.not_mem_nil
theorem ln_rows {h : Hs} {nm : Nat → Str} (ok : ∀ i, NameOk (nm i)) : ∀ (st : List Deed) (acc : List Row), (∀ D ∈ st, DeedOk h D) → (∀ r ∈ acc, RowOk h r) → ∀ r ∈ st.foldl (lnStep nm) acc, RowOk h r
  | [], acc, _, ha => ha
  | D :: st, acc, hst, ha => ln_rows ok st (lnStep nm acc D) (fun z hz => hst z (List.mem_cons_of_mem _ hz)) fun r hr => by
    unfold lnStep at hr
    rcases List.mem_append.mp hr with m | m
    · exact ha r m
    · rw [List.mem_singleton.mp m]
      have := hst D List.mem_cons_self
      cases D with
      | put k => exact ⟨this, ok _⟩
      | call c => exact this
section
variable {P : Program} {w : World} {K : PySem.W.Frag} {mg : Str → Option Value} {base : Heap} {k : Nat} {C : Addr}
/-! ### _law_thing_names -/
def rTn : Ow → List Dat → (Dat → Ow → Prop) → Prop := fun o ds Φ => ∃ (B : Bag) (n : Nat), n ≤ 200 ∧ o = bgO B ∧ ds = [.int (n : Nat)] ∧ ∀ (sh : Nat) (B' : Bag), Φ (lS ((List.range n).map (thg sh))) (bgO B')
def nTn : List Str := ["_law_bag_here", "_law_many", "_law_signs", "_law_shift", "_law_found", "_law_k", "_law_at", "_law_name"]
theorem scTn : FnScope nTn ["_law_bag_here", "_law_many"] (defScope (top 75)) := ⟨rfl, rfl, rfl, by decide +kernel, rfl, by decide +kernel, by decide +kernel⟩
theorem okTn (B : Bs K mg) (F : Stands K mg "_law_thing_names" (top 75)) (tk : Has P w K mg base 1 "_law_take" (BorSp K rTake)) : Has P w K mg base 2 "_law_thing_names" (BorSp K rTn) := by
  refine Has.bor F B scTn (fun _ _ _ _ _ _ us hl => match us, hl with | [_, _], _ => rfl) (fun o ds d ⟨_, _, _, _, e, _⟩ => by rw [e]; rfl) fun a o ds Φ ⟨G, n, hn, ho, hds, hΦ⟩ f cdv A outer s H g hr => ?_
  subst ho hds
  have nd := scTn.nd
  have t1000 : (1000 : Nat) ≤ sizeLine := by decide
  refine Run.cons (RunS.par3 (i := 2) (j := 3) (l := 4) (EvP.ev .str (EvI.ev (Ψ := fun d δ' => ∃ (v : Nat) (B1 : Bag), v < 702 ∧ d = .int (v : Nat) ∧ δ' = [.ow a (bgO B1), .im (.int (n : Nat)), .no, .no, .no, .no, .no, .no]) (EvI.takeB (i := 0) (q := a) g tk hr ⟨_, rfl⟩ (EvAP.ea (.cons .int .nil) ⟨G, 702, rfl, by decide, by decide, rfl, fun v B1 hv => ⟨v, B1, hv, rfl, rfl⟩⟩)) fun d δ' ⟨sh, B1, hs, e1, e2⟩ => ?_)) rfl nd)
  subst e1 e2
  refine Ev.newL (.nil ⟨Nat.zero_le _, fun q => ?_⟩)
  refine Run.cons (RunS.for_ ((EvItP.range1 (n := n) (.var (i := 1) rfl) (by omega) (B.free _ (by decide))).i ?_) rfl)
  refine ⟨fun j δ' => ∃ (x5 x6 x7 : Cell), δ' = [.ow a (bgO B1), .im (.int (n : Nat)), .im (.str abc), .im (.int (sh : Nat)), .ow q (.d (lS ((List.range j).map (thg sh)))), x5, x6, x7], ⟨_, _, _, rfl⟩, fun j d δ' hj ⟨x5, x6, x7, e⟩ => ?_, fun δ' ⟨x5, x6, x7, e⟩ => ?_⟩
  · subst e
    have hj1 : j < n := by
      have := (List.getElem?_eq_some_iff.mp hj).1
      rwa [rangeD_length] at this
    rw [rangeD_get hj1] at hj
    cases hj
    have e0 : ((0 : Int) + (j : Nat)) = ((j : Nat) : Int) := by omega
    rw [e0]
    refine ⟨_, AsD.name (i := 5) nd, ?_⟩
    refine Run.cons (RunS.setP (i := 6) (d := .int (((j * 577 + sh) % 702 : Nat) : Int)) (EvP.cast (EvP.bin (EvP.callT (T := "int") (.cons (EvP.bin (EvP.bin (.var (i := 5) rfl) .int (Op2.mul (.inr ⟨by decide, by decide⟩))) (.var (i := 3) rfl) Op2.add) .nil) CallD.intI (B.free _ (by decide))) .int (Op2.mod (by decide))) (congrArg Dat.int (by omega))) ?_ nd)
    have hv : (j * 577 + sh) % 702 < 702 := Nat.mod_lt _ (by decide)
    have ev : thg sh j = nmZ ((j * 577 + sh) % 702) := rfl
    generalize (j * 577 + sh) % 702 = v at hv ev
    refine Run.cons (RunS.setP (i := 7) (d := .str (nmL v)) (EvP.ifExp (k := decide ((v : Int) < 26)) (EvTP.cmp (.var (i := 6) rfl) .int Cmp2.lt) (fun hk => ?_) (fun hk => ?_)) ?_ nd)
    · have hk' : v < 26 := by have := of_decide_eq_true hk; omega
      refine EvP.cast (EvP.ix (.var (i := 2) rfl) (.var (i := 6) rfl) (Ix2.str (by rw [abcSize]; omega) (atIn (abcGet hk')))) ?_
      unfold nmL
      rw [if_pos hk']; rfl
    · have hk' : ¬ v < 26 := by have := of_decide_eq_false hk; omega
      have h1 : (v - 26) / 26 < 26 := by omega
      have h2 : (v - 26) % 26 < 26 := by omega
      refine EvP.cast (EvP.bin (EvP.ix (d2 := .int (((v - 26) / 26 : Nat) : Int)) (.var (i := 2) rfl) (EvP.cast (EvP.bin (EvP.callT (T := "int") (.cons (EvP.bin (.var (i := 6) rfl) .int Op2.sub) .nil) CallD.intI (B.free _ (by decide))) .int (Op2.fdiv ⟨by decide, by decide⟩)) (congrArg Dat.int (by omega))) (Ix2.str (by rw [abcSize]; omega) (atIn (abcGet h1)))) (EvP.ix (d2 := .int (((v - 26) % 26 : Nat) : Int)) (.var (i := 2) rfl) (EvP.cast (EvP.bin (EvP.callT (T := "int") (.cons (EvP.bin (.var (i := 6) rfl) .int Op2.sub) .nil) CallD.intI (B.free _ (by decide))) .int (Op2.mod (by decide))) (congrArg Dat.int (by omega))) (Ix2.str (by rw [abcSize]; omega) (atIn (abcGet h2)))) (Op2.addStr (by show 1 + 1 ≤ sizeLine; omega))) ?_
      unfold nmL
      rw [if_neg hk']; rfl
    · refine Run.one (RunS.expr (Ev.append (i := 4) (q := q) (EvP.i (d := .str (nmZ v)) (EvP.ifExp (k := decide ((v : Int) % 9 = 4)) (EvTP.cmp (EvP.bin (EvP.callT (T := "int") (.cons (.var (i := 6) rfl) .nil) CallD.intI (B.free _ (by decide))) .int (Op2.mod (by decide))) .int Cmp2.eqI) (fun hk => ?_) (fun hk => ?_)) ⟨_, rfl, by rw [List.length_map, List.length_map, List.length_range]; omega, ?_⟩) ⟨_, rfl⟩))
      · have hk' : v % 9 = 4 := by have := of_decide_eq_true hk; omega
        have := nmL_len v
        refine EvP.cast (EvP.bin (.var (i := 7) rfl) .str (Op2.addStr (by show (nmL v).length + 4 ≤ sizeLine; omega))) ?_
        unfold nmZ
        rw [if_pos hk']
      · have hk' : ¬ v % 9 = 4 := by have := of_decide_eq_false hk; omega
        refine EvP.cast (.var (i := 7) rfl) ?_
        unfold nmZ
        rw [if_neg hk']
      · refine ⟨.im (.int (j : Nat)), .im (.int (v : Nat)), .im (.str (nmL v)), ?_⟩
        rw [List.range_succ, List.map_append, ← ev]
        show _ = [_, _, _, _, Cell.ow q (.d (.list (((List.range j).map (thg sh) ++ [thg sh j]).map Dat.str))), _, _, _]
        rw [List.map_append]; rfl
  · subst e
    rw [rangeD_length]
    exact Run.one (RunS.ret (Ev.giveVar (i := 4) rfl ⟨_, bgO B1, rfl, rfl, fun _ => rfl, hΦ sh B1⟩))
/-! ### _law_log_of -/
def rLf : Ow → List Dat → (Dat → Ow → Prop) → Prop := fun o ds Φ => ∃ (B : Bag) (h : Hs) (st : List Deed), st.length ≤ 200 ∧ (∀ D ∈ st, DeedOk h D) ∧ o = bgO B ∧ ds = [stD st] ∧ ∀ (l : List Row) (B' : Bag), l.map Row.deed = st → LogOk h l → Φ (lgD l) (bgO B')
def nLf : List Str := ["_law_bag_here", "_law_stretch_here", "_law_names", "_law_found", "_law_deed"]
theorem scLf : FnScope nLf ["_law_bag_here", "_law_stretch_here"] (defScope (top 76)) := ⟨rfl, rfl, rfl, by decide +kernel, rfl, by decide +kernel, by decide +kernel⟩
theorem okLf (B : Bs K mg) (F : Stands K mg "_law_log_of" (top 76)) (tn : Has P w K mg base 2 "_law_thing_names" (BorSp K rTn)) : Has P w K mg base 3 "_law_log_of" (BorSp K rLf) := by
  refine Has.bor F B scLf (fun _ _ _ _ _ _ us hl => match us, hl with | [_, _], _ => rfl) (fun o ds d ⟨_, _, _, _, _, _, e, _⟩ => by rw [e]; rfl) fun a o ds Φ ⟨G, h, st, hl, hst, ho, hds, hΦ⟩ f cdv A outer s H g hr => ?_
  subst ho hds
  have nd := scLf.nd
  refine Run.cons (RunS.par2 (i := 2) (j := 3) (EvI.ev (Ψ := fun d δ' => ∃ (sh : Nat) (B1 : Bag), d = lS ((List.range st.length).map (thg sh)) ∧ δ' = [.ow a (bgO B1), .im (stD st), .no, .no, .no]) (EvI.ownB (i := 0) (q := a) g tn hr ⟨_, rfl⟩ (EvAP.ea (.cons (d := .int (st.length : Nat)) (EvP.cast (EvP.callB (fid := "len") (.cons (.var (i := 1) rfl) .nil) CallD.lenT (B.free _ (by decide))) (by rw [List.length_map])) .nil) ⟨_, fun d o' => ∃ (sh : Nat) (B1 : Bag), d = lS ((List.range st.length).map (thg sh)) ∧ o' = bgO B1, rfl, ⟨G, st.length, hl, rfl, rfl, fun sh B1 => ⟨sh, B1, rfl, rfl⟩⟩, fun d o' ⟨sh, B1, e1, e2⟩ _ => ⟨sh, B1, e1, by rw [e2]; rfl⟩⟩)) fun d δ' ⟨sh, B1, e1, e2⟩ => ?_) rfl nd)
  subst e1 e2
  refine Ev.newL (.nil ⟨Nat.zero_le _, fun q => ?_⟩)
  refine Run.cons (RunS.for_ ((EvItP.tup (.var (i := 1) rfl)).i ?_) rfl)
  refine ⟨fun j δ' => ∃ x4 : Cell, δ' = [.ow a (bgO B1), .im (stD st), .im (lS ((List.range st.length).map (thg sh))), .ow q (.d (.list (((st.take j).foldl (lnStep (thg sh)) []).map Row.dat))), x4], ⟨_, rfl⟩, fun j d δ' hj ⟨x4, e⟩ => ?_, fun δ' ⟨x4, e⟩ => ?_⟩
  · subst e
    rw [List.getElem?_map] at hj
    obtain ⟨D, hD, rfl⟩ := Option.map_eq_some_iff.mp hj
    have next := foldTake (lnStep (thg sh)) [] hD
    have hjl : j < st.length := (List.getElem?_eq_some_iff.mp hD).1
    have la : ((st.take j).foldl (lnStep (thg sh)) []).length = j := by
      rw [(ln_facts (thg sh) (st.take j) []).2, List.length_take]
      show 0 + min j st.length = j
      omega
    have fin : ([.ow a (bgO B1), .im (stD st), .im (lS ((List.range st.length).map (thg sh))), .ow q (.d (.list (((st.take j).foldl (lnStep (thg sh)) []).map Row.dat ++ [(rowN (thg sh) j D).dat]))), .im D.dat] : List Cell) = [.ow a (bgO B1), .im (stD st), .im (lS ((List.range st.length).map (thg sh))), .ow q (.d (.list (((st.take (j + 1)).foldl (lnStep (thg sh)) []).map Row.dat))), .im D.dat] := by
      rw [next]
      unfold lnStep
      rw [List.map_append]
      have : (rowN (thg sh) (List.foldl (fun acc D => acc ++ [rowN (thg sh) acc.length D]) [] (List.take j st)).length D) = rowN (thg sh) j D := congrArg (fun n => rowN (thg sh) n D) la
      rw [this]; rfl
    refine ⟨_, AsD.name (i := 4) nd, ?_⟩
    refine Run.one (RunS.expr (Ev.append (i := 3) (q := q) (EvP.i (d := (rowN (thg sh) j D).dat) ?_ ⟨_, rfl, by rw [List.length_map, la]; omega, .im D.dat, fin⟩) ⟨_, rfl⟩))
    cases D with
    | put z =>
      refine EvP.ifExp (k := true) (EvTP.cmp (EvP.ix (.var (i := 4) rfl) .int (Ix2.tup atI0)) .str Cmp2.eqS) (fun _ => ?_) (fun hk => nomatch hk)
      refine EvP.tup (.cons .str (.cons (EvP.ix (d2 := .int (j : Nat)) (.var (i := 2) rfl) (EvP.cast (d := .int (((((st.take j).foldl (lnStep (thg sh)) []).map Row.dat).length : Nat) : Int)) (EvP.readOwn (i := 3) (q := q) (o := .d (.list (((st.take j).foldl (lnStep (thg sh)) []).map Row.dat))) (dd := .list (((st.take j).foldl (lnStep (thg sh)) []).map Row.dat)) rfl rfl (EvP.callB (fid := "len") (.cons (.var (i := 3) rfl) .nil) CallD.lenL (B.free _ (by decide))) rfl) (by rw [List.length_map, la])) (Ix2.lst (d := .str (thg sh j)) (atIn ?_))) (.cons (EvP.ix (.var (i := 4) rfl) .int (Ix2.tup atI1)) .nil))) (Nat.le_of_ble_eq_true rfl)
      rw [List.getElem?_map, List.getElem?_map, List.getElem?_range hjl]; rfl
    | call c =>
      exact EvP.ifExp (k := false) (EvTP.cmp (EvP.ix (.var (i := 4) rfl) .int (Ix2.tup atI0)) .str Cmp2.eqS) (fun hk => nomatch hk) (fun _ => .var (i := 4) rfl)
  · subst e
    rw [List.length_map, List.take_length]
    refine Run.give (i := 3) rfl ?_
    refine Run.one (RunS.retP (EvP.callT (T := "tuple") (.cons (.var (i := 3) rfl) .nil) CallD.tupL (B.free _ (by decide))) ⟨_, bgO B1, rfl, rfl, fun _ => rfl, hΦ _ B1 (ln_facts (thg sh) st []).1 ⟨ln_rows (thgOk sh) st [] hst (fun r hr => absurd hr List.not_mem_nil), ?_⟩⟩)
    exact ln_names (N := 702) (fun i j hi hj e => thgInj hi hj e) st [] (by show 0 + st.length ≤ 702; omega) List.nodup_nil fun z hz => absurd hz List.not_mem_nil
/-! ### _law_plain_log -/
def rPg : Ow → List Dat → (Dat → Ow → Prop) → Prop := fun o ds Φ => ∃ (B : Bag) (h : Hs) (n : Nat), HouseOk h ∧ n ≤ 200 ∧ o = bgO B ∧ ds = [h.dat, .int (n : Nat)] ∧ ∀ (l : List Row) (B' : Bag), l.length ≤ n → LogOk h l → Φ (lgD l) (bgO B')
def nPg : List Str := ["_law_bag_here", "_law_house", "_law_most"]
theorem scPg : FnScope nPg ["_law_bag_here", "_law_house", "_law_most"] (defScope (top 77)) := ⟨rfl, rfl, rfl, by decide +kernel, rfl, by decide +kernel, by decide +kernel⟩
theorem okPg (B : Bs K mg) (F : Stands K mg "_law_plain_log" (top 77)) (sr : Has P w K mg base 3 "_law_stretch" (BorSp K rSr)) (lf : Has P w K mg base 3 "_law_log_of" (BorSp K rLf)) : Has P w K mg base 4 "_law_plain_log" (BorSp K rPg) := by
  refine Has.bor F B scPg (fun _ _ _ _ _ _ us hl => match us, hl with | [_, _, _], _ => rfl) (fun o ds d ⟨_, _, _, _, _, _, e, _⟩ => by rw [e]; rfl) fun a o ds Φ ⟨G, h, n, ok, hn, ho, hds, hΦ⟩ f cdv A outer s H g hr => ?_
  subst ho hds
  refine Run.one (RunS.retI (EvI.ownB (i := 0) (q := a) g lf hr ⟨_, rfl⟩ (EvA.cons (EvI.ownB (i := 0) (q := a) g sr hr ⟨_, rfl⟩ (EvAP.ea (.cons (.var (i := 1) rfl) (.cons (.var (i := 2) rfl) .nil)) ⟨_, fun d o' => ∃ (st : List Deed) (B1 : Bag), st.length ≤ n ∧ (∀ D ∈ st, DeedOk h D) ∧ d = stD st ∧ o' = bgO B1, rfl, ⟨G, h, n, ok, hn, rfl, rfl, fun st B1 h1 h2 => ⟨st, B1, h1, h2, rfl, rfl⟩⟩, fun d o' ⟨st, B1, h1, h2, e1, e2⟩ _ => ?_⟩)))))
  subst e1 e2
  refine EvA.nil ⟨_, fun d o' => ∃ (l : List Row) (B2 : Bag), l.map Row.deed = st ∧ LogOk h l ∧ d = lgD l ∧ o' = bgO B2, rfl, ⟨B1, h, st, by omega, h2, rfl, rfl, fun l B2 e1 e2 => ⟨l, B2, e1, e2, rfl, rfl⟩⟩, fun d o' ⟨l, B2, h3, h4, e1, e2⟩ _ => ?_⟩
  subst e1 e2
  exact ⟨_, bgO B2, rfl, rfl, fun _ => rfl, hΦ l B2 (by rw [← h3, List.length_map] at h1; exact h1) h4⟩
end
end K94
end

/-! text XI -/
section
set_option Elab.async false
set_option autoImplicit false
set_option linter.all false
set_option maxRecDepth 100000
set_option maxHeartbeats 4000000
/-! the plain law of a house drawn -/
namespace K94
open PySem PySem.Spec PyProof.Rows L2
open PySem.W (dataLt dataLe keyToksAll keyToks sort_pairwise sortLe_total)
theorem idxNe {α : Type} [BEq α] [LawfulBEq α] {a x : α} {c : List α} (h : a ≠ x) : (a :: c).idxOf x = c.idxOf x + 1 := by
  rw [List.idxOf_cons]
  have : (a == x) = false := by simpa using h
  rw [this]; rfl
theorem strExt {a b : Str} (h : a.cps.toList = b.cps.toList) : a = b := by
  cases a; cases b
  simpa [Array.toList_inj] using h
theorem toksS : ∀ {p q : List Str}, keyToksAll (pyAll (dS p)) = keyToksAll (pyAll (dS q)) → p = q
  | [], [], _ => rfl
  | [], y :: q, h => by
    have : (Sum.inl 0 : Int ⊕ List Nat) = .inl 1 := (List.cons.inj h).1
    injection this with this
    cases this
  | x :: p, [], h => by
    have : (Sum.inl 1 : Int ⊕ List Nat) = .inl 0 := (List.cons.inj h).1
    injection this with this
    cases this
  | x :: p, y :: q, h => by
    have h1 := (List.cons.inj h).2
    have h2 : (Sum.inr x.cps.toList : Int ⊕ List Nat) = .inr y.cps.toList := (List.cons.inj h1).1
    have h3 := (List.cons.inj h1).2
    injection h2 with h2
    rw [strExt h2, toksS h3]
theorem ltTotal {p q : List Str} (h1 : dataLt (tS p).py (tS q).py = false) (h2 : dataLt (tS q).py (tS p).py = false) : p = q := toksS (lex_total _ _ h1 h2)
theorem ltTotalS {p q : Str} (h1 : dataLt (.str p) (.str q) = false) (h2 : dataLt (.str q) (.str p) = false) : p = q := by
  have := lex_total (O := itemOrd) _ _ h1 h2
  have h3 : (Sum.inr p.cps.toList : Int ⊕ List Nat) = .inr q.cps.toList := (List.cons.inj this).1
  injection h3 with h3
  exact strExt h3
theorem leOf {a b : PyData} : (dataLe false (id : PyData → PyData)) a b = !dataLt b a := rfl
def sC (cs : List (List Str)) : List (List Str) := cs.mergeSort fun a b => dataLe false Dat.py (cD a) (cD b)
theorem sC_perm (cs : List (List Str)) : (sC cs).Perm cs := List.mergeSort_perm _ _
theorem srtC (cs : List (List Str)) : srt (cs.map cD) = (sC cs).map cD := srtMap cD cs
theorem sC_pw (cs : List (List Str)) : (sC cs).Pairwise fun a b => dataLt (cD b).py (cD a).py = false := by
  have := sort_pairwise (sortLe_total (listOrd itemOrd) false fun a : List Str => keyToks (cD a).py) cs
  refine List.Pairwise.imp (fun {a b} h => ?_) this
  have h' : (!dataLt (cD b).py (cD a).py) = true := h
  simpa using h'
theorem sC_lt {cs : List (List Str)} (nd : cs.Nodup) : (sC cs).Pairwise fun a b => dataLt (cD a).py (cD b).py = true := by
  have nd' : (sC cs).Nodup := (sC_perm cs).nodup_iff.mpr nd
  refine List.Pairwise.imp₂ (fun a b h ne => ?_) (sC_pw cs) nd'
  cases e : dataLt (cD a).py (cD b).py with
  | true => rfl
  | false => exact absurd (ltTotal e h) ne
theorem zipTail {α : Type} {R : α → α → Prop} : ∀ {l : List α}, l.Pairwise R → ∀ x ∈ l.zip l.tail, R x.1 x.2
  | [], _, x, h => absurd h (by simp)
  | [a], _, x, h => absurd h (by simp)
  | a :: b :: l, hp, x, h => by
    obtain ⟨h1, h2⟩ := List.pairwise_cons.mp hp
    have h' : x ∈ (a, b) :: (b :: l).zip (b :: l).tail := h
    rcases List.mem_cons.mp h' with e | m
    · rw [e]; exact h1 b List.mem_cons_self
    · exact zipTail h2 x m
theorem sortedFilter : ∀ {ns c : List Nat}, ns.Pairwise (· < ·) → c.Pairwise (· < ·) → (∀ k ∈ c, k ∈ ns) → ns.filter (fun k => decide (k ∈ c)) = c
  | [], c, _, _, h => by
    cases c with
    | nil => rfl
    | cons a c => exact absurd (h a List.mem_cons_self) List.not_mem_nil
  | a :: ns, c, hn, hc, h => by
    obtain ⟨n1, n2⟩ := List.pairwise_cons.mp hn
    by_cases ha : a ∈ c
    · cases c with
      | nil => exact absurd ha List.not_mem_nil
      | cons x c =>
        obtain ⟨c1, c2⟩ := List.pairwise_cons.mp hc
        have xa : x = a := by
          rcases List.mem_cons.mp ha with e | m
          · exact e.symm
          · have l1 := c1 a m
            rcases List.mem_cons.mp (h x List.mem_cons_self) with e | m2
            · exact e
            · have := n1 x m2; omega
        subst xa
        rw [List.filter_cons_of_pos (by simp)]
        refine congrArg _ ?_
        have e : ns.filter (fun k => decide (k ∈ x :: c)) = ns.filter (fun k => decide (k ∈ c)) := List.filter_congr fun k hk => by
          have : k ≠ x := fun e => by have := n1 k hk; omega
          simp [this]
        rw [e]
        refine sortedFilter n2 c2 fun k hk => ?_
        rcases List.mem_cons.mp (h k (List.mem_cons_of_mem _ hk)) with e | m
        · have := c1 k hk; omega
        · exact m
    · rw [List.filter_cons_of_neg (by simpa using ha)]
      refine sortedFilter n2 hc fun k hk => ?_
      rcases List.mem_cons.mp (h k hk) with e | m
      · exact absurd (e ▸ hk) ha
      · exact m
/-- what the paths are -/
structure PathsOk (n : Nat) (cs : List (List Nat)) : Prop where
  ne : cs ≠ []
  few : cs.length ≤ 8
  full : ∀ c ∈ cs, c ≠ []
  up : ∀ c ∈ cs, c.Pairwise (· < ·)
  lt : ∀ c ∈ cs, ∀ k ∈ c, k < n
  nest : ∀ c ∈ cs, ∀ c' ∈ cs, ∀ k ∈ c, k ∈ c' → ∀ l ∈ c, k < l → l ∈ c'
def toF (ns : List Nat) (nms : List Str) (k : Nat) : Str := nms.getD (ns.idxOf k) default
theorem toF_at {ns : List Nat} {nms : List Str} (nd : ns.Nodup) (hl : ns.length = nms.length) {i : Nat} {k : Nat} (h : ns[i]? = some k) : nms[i]? = some (toF ns nms k) := by
  have hi : i < ns.length := (List.getElem?_eq_some_iff.mp h).1
  have e : ns.idxOf k = i := by
    have e2 : ns[i] = k := (List.getElem?_eq_some_iff.mp h).2
    rw [← e2]
    exact List.Nodup.idxOf_getElem nd i hi
  unfold toF
  rw [e, List.getD_eq_getElem?_getD, List.getElem?_eq_getElem (by omega)]; rfl
theorem toF_map {ns : List Nat} {nms : List Str} (nd : ns.Nodup) (hl : ns.length = nms.length) : ns.map (toF ns nms) = nms := by
  refine List.ext_getElem? fun i => ?_
  rw [List.getElem?_map]
  cases h : ns[i]? with
  | none =>
    have := List.getElem?_eq_none_iff.mp h
    rw [List.getElem?_eq_none (by omega)]; rfl
  | some k => rw [toF_at nd hl h]; rfl
theorem toF_inj {ns : List Nat} {nms : List Str} (nd : ns.Nodup) (nd2 : nms.Nodup) (hl : ns.length = nms.length) {a b : Nat} (ha : a ∈ ns) (hb : b ∈ ns) (e : toF ns nms a = toF ns nms b) : a = b := by
  obtain ⟨i, hi⟩ := List.getElem?_of_mem ha
  obtain ⟨j, hj⟩ := List.getElem?_of_mem hb
  have h1 := toF_at nd hl hi
  have h2 := toF_at nd hl hj
  rw [e] at h1
  have li : i < nms.length := (List.getElem?_eq_some_iff.mp h1).1
  have ij : i = j := (List.getElem?_inj li nd2).mp (h1.trans h2.symm)
  subst ij
  rw [hi] at hj
  exact Option.some.inj hj
theorem idxMap {f : Nat → Str} : ∀ {c : List Nat} {x : Nat}, x ∈ c → (∀ a ∈ c, f a = f x → a = x) → (c.map f).idxOf (f x) = c.idxOf x
  | [], x, h, _ => absurd h List.not_mem_nil
  | a :: c, x, h, inj => by
    by_cases e : a = x
    · subst e
      rw [List.map_cons, List.idxOf_cons_self, List.idxOf_cons_self]
    · have ne : f a ≠ f x := fun z => e (inj a List.mem_cons_self z)
      have hx : x ∈ c := by
        rcases List.mem_cons.mp h with z | z
        · exact absurd z.symm e
        · exact z
      rw [List.map_cons, idxNe ne, idxNe e, idxMap hx fun b hb => inj b (List.mem_cons_of_mem _ hb)]
theorem dropUp : ∀ {c : List Nat} {x z : Nat}, c.Pairwise (· < ·) → x ∈ c → z ∈ c.drop (c.idxOf x + 1) → x < z
  | [], x, z, _, h, _ => absurd h List.not_mem_nil
  | a :: c, x, z, hp, h, hz => by
    obtain ⟨h1, h2⟩ := List.pairwise_cons.mp hp
    by_cases e : a = x
    · subst e
      rw [List.idxOf_cons_self] at hz
      exact h1 z (by simpa using hz)
    · have hx : x ∈ c := by
        rcases List.mem_cons.mp h with z | z
        · exact absurd z.symm e
        · exact z
      rw [idxNe e, List.drop_succ_cons] at hz
      exact dropUp h2 hx hz
def mkHs (ns : List Nat) (nms : List Str) (ks : List (List Nat)) : Hs := ⟨nms, sC (ks.map fun c => c.map (toF ns nms))⟩
theorem houseDrawn {n : Nat} {ks : List (List Nat)} {ns : List Nat} {nms : List Str} (po : PathsOk n ks) (nk : ks.Nodup) (hn : n ≤ 5) (up : ns.Pairwise (· < ·)) (mem : ∀ k, k ∈ ns ↔ ∃ c ∈ ks, k ∈ c) (hl : ns.length = nms.length) (nd : nms.Nodup) (ok : ∀ z ∈ nms, NameOk z) :
    HouseOk (mkHs ns nms ks) ∧ Nest (mkHs ns nms ks) ∧ (mkHs ns nms ks).ks.length ≤ 5 := by
  have nsd : ns.Nodup := up.imp fun h => by omega
  have inN : ∀ c ∈ ks, ∀ k ∈ c, k ∈ ns := fun c hc k hk => (mem k).mpr ⟨c, hc, hk⟩
  have inj : ∀ {a b}, a ∈ ns → b ∈ ns → toF ns nms a = toF ns nms b → a = b := fun ha hb e => toF_inj nsd nd hl ha hb e
  have emap := toF_map nsd hl
  have lt5 : ns.length ≤ n := by
    have := nodupLen (l := ns) (m := List.range n) nsd fun k hk => by
      obtain ⟨c, hc, hkc⟩ := (mem k).mp hk
      exact List.mem_range.mpr (po.lt c hc k hkc)
    rwa [List.length_range] at this
  have inC : ∀ {c'}, c' ∈ (mkHs ns nms ks).cs ↔ ∃ c ∈ ks, c.map (toF ns nms) = c' := fun {c'} => by
    show c' ∈ sC _ ↔ _
    rw [(sC_perm _).mem_iff, List.mem_map]
  have mapInj : ∀ c ∈ ks, ∀ d ∈ ks, c.map (toF ns nms) = d.map (toF ns nms) → c = d := fun c hc d hd e => by
    have h1 := sortedFilter up (po.up c hc) (inN c hc)
    have h2 := sortedFilter up (po.up d hd) (inN d hd)
    rw [← h1, ← h2]
    refine List.filter_congr fun k hk => ?_
    have key : ∀ a ∈ ks, ∀ b ∈ ks, a.map (toF ns nms) = b.map (toF ns nms) → k ∈ a → k ∈ b := fun a ha b hb e h => by
      have : toF ns nms k ∈ b.map (toF ns nms) := e ▸ List.mem_map.mpr ⟨k, h, rfl⟩
      obtain ⟨y, hy, ey⟩ := List.mem_map.mp this
      rwa [← inj (inN b hb y hy) hk ey]
    exact decide_eq_decide.mpr ⟨key c hc d hd e, key d hd c hc e.symm⟩
  have nodC : (ks.map fun c => c.map (toF ns nms)).Nodup := by
    refine List.pairwise_map.mpr (List.Pairwise.imp_of_mem (fun {a b} ha hb ne => ?_) nk)
    exact fun e => ne (mapInj a ha b hb e)
  refine ⟨⟨nd, ?_, ?_, ok, ?_, ?_, ?_, ?_, ?_, ?_⟩, ?_, ?_⟩
  · show 1 ≤ nms.length
    rw [← hl]
    obtain ⟨c, hc⟩ := List.exists_mem_of_ne_nil _ po.ne
    obtain ⟨k, hk⟩ := List.exists_mem_of_ne_nil _ (po.full c hc)
    exact List.length_pos_of_mem (inN c hc k hk)
  · show nms.length ≤ 6
    omega
  · show 1 ≤ (sC _).length
    rw [(sC_perm _).length_eq, List.length_map]
    exact List.length_pos_iff.mpr po.ne
  · show (sC _).length ≤ 8
    rw [(sC_perm _).length_eq, List.length_map]
    exact po.few
  · intro c' hc'
    obtain ⟨c, hc, rfl⟩ := inC.mp hc'
    show nms.filter (fun k => decide (k ∈ c.map (toF ns nms))) = c.map (toF ns nms)
    have e1 : nms.filter (fun k => decide (k ∈ c.map (toF ns nms))) = (ns.map (toF ns nms)).filter (fun k => decide (k ∈ c.map (toF ns nms))) := by rw [emap]
    rw [e1, List.filter_map]
    refine congrArg _ ?_
    refine Eq.trans (List.filter_congr fun k hk => ?_) (sortedFilter up (po.up c hc) (inN c hc))
    show decide (toF ns nms k ∈ c.map (toF ns nms)) = decide (k ∈ c)
    refine decide_eq_decide.mpr ⟨fun h => ?_, fun h => List.mem_map.mpr ⟨k, h, rfl⟩⟩
    obtain ⟨y, hy, ey⟩ := List.mem_map.mp h
    rwa [← inj (inN c hc y hy) hk ey]
  · intro c' hc'
    obtain ⟨c, hc, rfl⟩ := inC.mp hc'
    exact fun e => po.full c hc (List.map_eq_nil_iff.mp e)
  · exact zipTail (sC_lt nodC)
  · intro k hk
    have hk' : k ∈ ns.map (toF ns nms) := by rw [emap]; exact hk
    obtain ⟨x, hx, rfl⟩ := List.mem_map.mp hk'
    obtain ⟨c, hc, hxc⟩ := (mem x).mp hx
    exact ⟨_, inC.mpr ⟨c, hc, rfl⟩, List.mem_map.mpr ⟨x, hxc, rfl⟩⟩
  · intro one h1 other h2 k hk ho l hl2
    obtain ⟨c, hc, rfl⟩ := inC.mp h1
    obtain ⟨d, hd, rfl⟩ := inC.mp h2
    obtain ⟨x, hx, rfl⟩ := List.mem_map.mp hk
    obtain ⟨y, hy, ey⟩ := List.mem_map.mp ho
    have xy : y = x := inj (inN d hd y hy) (inN c hc x hx) ey
    subst xy
    unfold after at hl2
    rw [idxMap hx fun a ha e => inj (inN c hc a ha) (inN c hc _ hx) e, ← List.map_drop] at hl2
    obtain ⟨z, hz, rfl⟩ := List.mem_map.mp hl2
    have zc : z ∈ c := List.mem_of_mem_drop hz
    exact List.mem_map.mpr ⟨z, po.nest c hc d hd _ hx hy z zc (dropUp (po.up c hc) hx hz), rfl⟩
  · show nms.length ≤ 5
    omega
end K94
end

/-! text XJ -/
section
set_option Elab.async false
set_option autoImplicit false
set_option linter.all false
set_option maxRecDepth 100000
set_option maxHeartbeats 4000000
/-! the law: paths drawn -/
namespace K94
open PySem PySem.Spec PyProof.Rows L2
def oN : Option Nat → Dat
  | none => .none
  | some j => .int (j : Nat)
def nI (k : Nat) : Dat := .int (k : Nat)
def tI (c : List Nat) : Dat := .tuple (c.map nI)
def iOf : Dat → Int
  | .int i => i
  | _ => 0
theorem oN_oD (bs : List (Option Nat)) : bs.map oN = (bs.map (Option.map Int.ofNat)).map oD := by
  rw [List.map_map]
  exact List.map_congr_left fun b _ => by cases b <;> rfl
theorem memO (bs : List (Option Nat)) (k : Nat) : decide (some (k : Int) ∈ bs.map (Option.map Int.ofNat)) = decide (some k ∈ bs) := by
  refine decide_eq_decide.mpr ⟨fun h => ?_, fun h => List.mem_map.mpr ⟨_, h, rfl⟩⟩
  obtain ⟨b, hb, e⟩ := List.mem_map.mp h
  cases b with
  | none => cases e
  | some j =>
    have : ((j : Nat) : Int) = (k : Nat) := Option.some.inj e
    have : j = k := by omega
    rwa [← this]
theorem rangeN (n : Nat) : rangeD 0 n = (List.range n).map nI := List.map_congr_left fun i _ => by show Dat.int (0 + (i : Int)) = Dat.int (i : Nat); congr 1; omega
theorem keptN (b : Nat → Bool) (f : Dat → Bool) (hf : ∀ k, f (nI k) = b k) (l : List Nat) : keptD f id (l.map nI) = (l.filter b).map nI := by
  unfold keptD
  rw [List.filter_map, List.map_id]
  exact congrArg _ (List.filter_congr fun k _ => hf k)
theorem cutSub {α : Type} (f : α → Dat) (xs : List α) (lo hi : Option Int) : ∃ ys : List α, cutD (xs.map f) lo hi = ys.map f ∧ ys.Sublist xs := by
  refine ⟨(xs.drop (HT.sIx (xs.map f).length 0 lo)).take (HT.sIx (xs.map f).length (xs.map f).length hi - HT.sIx (xs.map f).length 0 lo), ?_, (List.take_sublist _ _).trans (List.drop_sublist _ _)⟩
  unfold cutD
  rw [List.map_take, List.map_drop]
theorem cutAll (xs : List Dat) {j : Nat} (h : xs.length ≤ j) : cutD xs Option.none (some (j : Int)) = xs := by
  have e1 : HT.sIx xs.length 0 Option.none = 0 := by simp [HT.sIx]
  have e2 : HT.sIx xs.length xs.length (some (j : Int)) = xs.length := by
    unfold HT.sIx
    simp
    try split
    all_goals omega
  unfold cutD
  rw [e1, e2]
  simp
structure Bh (n : Nat) (bs : List (Option Nat)) : Prop where
  len : bs.length = n
  up : ∀ k j, bs[k]? = some (some j) → k < j ∧ j < n
inductive Ch (bs : List (Option Nat)) : List Nat → Prop
  | one {z : Nat} : bs[z]? = some none → Ch bs [z]
  | cons {z y : Nat} {l : List Nat} : bs[z]? = some (some y) → Ch bs (y :: l) → Ch bs (z :: y :: l)
section
variable {n : Nat} {bs : List (Option Nat)} (hb : Bh n bs)
theorem Ch.lt (h : Bh n bs) : ∀ {c : List Nat}, Ch bs c → ∀ k ∈ c, k < n
  | _, .one e, k, hk => by
    rw [List.mem_singleton.mp hk, ← h.len]
    exact (List.getElem?_eq_some_iff.mp e).1
  | _, .cons e t, k, hk => by
    rcases List.mem_cons.mp hk with rfl | m
    · have := h.up _ _ e; omega
    · exact t.lt h k m
theorem Ch.up (h : Bh n bs) : ∀ {c : List Nat}, Ch bs c → c.Pairwise (· < ·)
  | _, .one e => List.pairwise_singleton _ _
  | _, @Ch.cons _ z y l e t => by
    have ih := t.up h
    have zy := (h.up _ _ e).1
    refine List.pairwise_cons.mpr ⟨fun b hb => ?_, ih⟩
    rcases List.mem_cons.mp hb with rfl | m
    · exact zy
    · have := (List.pairwise_cons.mp ih).1 b m; omega
theorem Ch.det : ∀ {k : Nat} {t t' : List Nat}, Ch bs (k :: t) → Ch bs (k :: t') → t = t'
  | _, _, _, .one e, .one e' => rfl
  | _, _, _, .one e, .cons e' t' => by rw [e] at e'; cases e'
  | _, _, _, .cons e t, .one e' => by rw [e] at e'; cases e'
  | _, _, _, .cons e t, .cons e' t' => by
    rw [e] at e'
    cases e'
    rw [t.det t']
theorem Ch.suffix (h : Bh n bs) : ∀ {c : List Nat}, Ch bs c → ∀ k ∈ c, ∃ t, Ch bs (k :: t) ∧ (∀ l ∈ c, k < l → l ∈ t) ∧ ∀ l ∈ t, l ∈ c
  | _, @Ch.one _ z e, k, hk => by
    have hk := List.mem_singleton.mp hk
    subst hk
    exact ⟨[], .one e, fun l hl lt => by rw [List.mem_singleton.mp hl] at lt; omega, fun l hl => absurd hl List.not_mem_nil⟩
  | _, @Ch.cons _ z y l e t, k, hk => by
    rcases List.mem_cons.mp hk with rfl | m
    · refine ⟨y :: l, .cons e t, fun x hx lt => ?_, fun x hx => List.mem_cons_of_mem _ hx⟩
      rcases List.mem_cons.mp hx with rfl | m
      · omega
      · exact m
    · obtain ⟨s, h1, h2, h3⟩ := t.suffix h k m
      refine ⟨s, h1, fun x hx lt => ?_, fun x hx => List.mem_cons_of_mem _ (h3 x hx)⟩
      rcases List.mem_cons.mp hx with rfl | m2
      · have := (List.pairwise_cons.mp ((Ch.cons e t).up h)).1 k m; omega
      · exact h2 x m2 lt
theorem Ch.full : ∀ {c : List Nat}, Ch bs c → c ≠ []
  | _, .one _ => by simp
  | _, .cons _ _ => by simp
theorem pathsOf {cs : List (List Nat)} (h : Bh n bs) (hc : ∀ c ∈ cs, Ch bs c) (ne : cs ≠ []) (few : cs.length ≤ 8) : PathsOk n cs where
  ne := ne
  few := few
  full := fun c hc' => (hc c hc').full
  up := fun c hc' => (hc c hc').up h
  lt := fun c hc' => (hc c hc').lt h
  nest := fun c h1 c' h2 k hk hk' l hl lt => by
    obtain ⟨t, a1, a2, _⟩ := (hc c h1).suffix h k hk
    obtain ⟨t', b1, _, b3⟩ := (hc c' h2).suffix h k hk'
    have := a1.det b1
    subst this
    exact b3 l (a2 l hl lt)
end
section
variable {P : Program} {w : World} {K : PySem.W.Frag} {mg : Str → Option Value} {base : Heap} {k : Nat} {C : Addr}
/-! ### _law_paths -/
def rPa : Ow → List Dat → (Dat → Ow → Prop) → Prop := fun o ds Φ => ∃ (B : Bag) (n : Nat), 1 ≤ n ∧ n ≤ 5 ∧ o = bgO B ∧ ds = [.int (n : Nat), .int 8] ∧ ∀ (cs : List (List Nat)) (B' : Bag), PathsOk n cs → Φ (.list (cs.map tI)) (bgO B')
def nPa : List Str := ["_law_bag_here", "_law_many", "_law_calls", "_law_behind", "_law_kind", "_law_heads", "_law_found", "_law_head", "_law_call"]
theorem scPa : FnScope nPa ["_law_bag_here", "_law_many", "_law_calls"] (defScope (top 71)) := ⟨rfl, rfl, rfl, by decide +kernel, rfl, by decide +kernel, by decide +kernel⟩
theorem okPa (B : Bs K mg) (F : Stands K mg "_law_paths" (top 71)) (one : Has P w K mg base 2 "_law_one" (BorSp K rOne)) (mx : Has P w K mg base 2 "_law_mixed" (BorSp K rMix)) : Has P w K mg base 3 "_law_paths" (BorSp K rPa) := by
  refine Has.bor F B scPa (fun _ _ _ _ _ _ us hl => match us, hl with | [_, _, _], _ => rfl) (fun o ds d ⟨_, _, _, _, _, e, _⟩ => by rw [e]; rfl) fun a o ds Φ ⟨G, n, n1, n5, ho, hds, hΦ⟩ f cdv A outer s H g hr => ?_
  subst ho hds
  have nd := scPa.nd
  have t1000 : (1000 : Nat) ≤ sizeLine := by decide
  refine Run.cons (RunS.set (i := 3) (EvI.ev (Ψ := fun d δ' => ∃ (bs : List (Option Nat)) (B1 : Bag), Bh n bs ∧ d = .list (bs.map oN) ∧ δ' = [.ow a (bgO B1), .im (.int (n : Nat)), .im (.int 8), .no, .no, .no, .no, .no, .no]) (EvI.compI (own := [("_law_kind", 4)]) rfl nd (blkOk_by (N := nPa) (sc := defScope (top 71)) (by decide +kernel)) ((EvItP.range1 (n := n) (.var (i := 1) rfl) (by omega) (B.free _ (by decide))).i ⟨by rw [rangeD_length]; omega, fun i acc δ' => ∃ (B' : Bag) (bs : List (Option Nat)) (x : Cell), bs.length = i ∧ (∀ k j, bs[k]? = some (some j) → k < j ∧ j < n) ∧ acc = bs.map oN ∧ δ' = [.ow a (bgO B'), .im (.int (n : Nat)), .im (.int 8), .no, x, .no, .no, .no, .no], ⟨G, [], .no, rfl, fun k j h => by simp at h, rfl, rfl⟩, fun i d acc δ' hi ⟨B', bs, x, lb, hb, ea, ed⟩ => ?_, fun acc δ' ⟨B', bs, x, lb, hb, ea, ed⟩ => ?_⟩)) fun d δ' ⟨bs, B1, hb, e1, e2⟩ => ?_) nd)
  · subst ea ed
    have hi1 : i < n := by
      have := (List.getElem?_eq_some_iff.mp hi).1
      rwa [rangeD_length] at this
    rw [rangeD_get hi1] at hi
    cases hi
    have e0 : ((0 : Int) + (i : Nat)) = ((i : Nat) : Int) := by omega
    rw [e0]
    refine ⟨_, fun s H C cl fp => ⟨AsDV.name (i := 4) nd, ?_⟩⟩
    refine EvI.oneB (i := 0) (q := a) g.blk one hr ⟨_, rfl⟩ (EvAP.ea (.cons (EvP.bin (EvP.listRange (n := i + 1) (m := n) (EvP.bin (.var (i := 4) rfl) .int Op2.add) (.var (i := 1) rfl) (by omega) (by omega) g.blk (B.free _ (by decide)) (B.free _ (by decide))) (.lst (ds := [.none]) (.cons .non .nil) (Nat.le_of_ble_eq_true rfl)) (Op2.cat (by rw [rangeD_length]; show n - (i + 1) + 1 ≤ sizeLine; omega))) .nil) ⟨B', _, .inl rfl, by rw [List.length_append]; exact Nat.le_add_left _ _, by rw [List.length_append, rangeD_length]; show n - (i + 1) + 1 ≤ 1000; omega, rfl, fun d hd B2 => ?_⟩)
    have hd' : ∃ b : Option Nat, d = oN b ∧ ∀ j, b = some j → i < j ∧ j < n := by
      rcases List.mem_append.mp hd with m | m
      · obtain ⟨t, ht, rfl⟩ := List.mem_map.mp m
        have ht := List.mem_range.mp ht
        refine ⟨some (i + 1 + t), ?_, fun j e => ?_⟩
        · show Dat.int (((i + 1 : Nat) : Int) + t) = Dat.int ((i + 1 + t : Nat) : Int)
          congr 1
        · cases e
          omega
      · rw [List.mem_singleton.mp m]
        exact ⟨none, rfl, fun j e => nomatch e⟩
    obtain ⟨b, rfl, hbj⟩ := hd'
    refine ⟨B2, bs ++ [b], .im (.int (i : Nat)), by rw [List.length_append, lb]; rfl, fun k j h => ?_, by rw [List.map_append]; rfl, rfl⟩
    rcases Nat.lt_or_ge k bs.length with u | u
    · rw [List.getElem?_append_left u] at h
      exact hb k j h
    · rw [List.getElem?_append_right u] at h
      have hk : k - bs.length = 0 := by
        rcases Nat.eq_zero_or_pos (k - bs.length) with z | z
        · exact z
        · rw [List.getElem?_eq_none (show [b].length ≤ k - bs.length from z)] at h; cases h
      rw [hk] at h
      have e : b = some j := by simpa using h
      have := hbj j e
      omega
  · subst ea ed
    rw [rangeD_length] at lb
    exact ⟨bs, B', ⟨lb, hb⟩, rfl, rfl⟩
  · subst e1 e2
    have lbs : bs.length = n := hb.len
    refine Run.cons (RunS.setComp (i := 5) (own := [("_law_kind", 4)]) (ds := rangeD 0 n) (b := fun d => !decide (some (iOf d) ∈ bs.map (Option.map Int.ofNat))) (r := id) (f := fun d => [.ow a (bgO B1), .im (.int (n : Nat)), .im (.int 8), .im (.list (bs.map oN)), .im d, .no, .no, .no, .no]) rfl nd (blkOk_by (N := nPa) (sc := defScope (top 71)) (by decide +kernel)) (EvItP.range1 (n := n) (.var (i := 1) rfl) (by omega) (B.free _ (by decide))) (fun d hd s H C cl fp => AsDV.name (i := 4) nd) (fun d hd s H C cl fp => ?_) (fun d hd _ s H C cl fp => .var (i := 4) rfl) (by rw [rangeD_length]; omega) ?_)
    · rw [rangeN] at hd
      obtain ⟨z, _, rfl⟩ := List.mem_map.mp hd
      exact EvTP.cmp (.var (i := 4) rfl) (EvP.cast (.var (i := 3) rfl) (congrArg Dat.list (oN_oD bs))) Cmp2.notInLO
    · have e0 : keptD (fun d => !decide (some (iOf d) ∈ bs.map (Option.map Int.ofNat))) id (rangeD 0 n) = ((List.range n).filter fun k => !decide (some k ∈ bs)).map nI := by
        rw [rangeN]
        exact keptN (fun k => !decide (some k ∈ bs)) _ (fun k => by show (!decide (some ((k : Nat) : Int) ∈ bs.map (Option.map Int.ofNat))) = _; rw [memO]) _
      rw [e0]
      have m0 : 0 ∈ (List.range n).filter fun k => !decide (some k ∈ bs) := by
        refine List.mem_filter.mpr ⟨List.mem_range.mpr n1, ?_⟩
        have : ¬ some 0 ∈ bs := fun h => by
          obtain ⟨k, hk⟩ := List.getElem?_of_mem h
          have := (hb.up k 0 hk).1
          omega
        simpa using this
      have nd0 : ((List.range n).filter fun k => !decide (some k ∈ bs)).Nodup := List.nodup_range.sublist List.filter_sublist
      have lt0 : ∀ k ∈ (List.range n).filter fun k => !decide (some k ∈ bs), k < n := fun k hk => List.mem_range.mp (List.mem_filter.mp hk).1
      have not0 : ∀ k ∈ (List.range n).filter fun k => !decide (some k ∈ bs), some k ∉ bs := fun k hk => by simpa using (List.mem_filter.mp hk).2
      generalize (List.range n).filter (fun k => !decide (some k ∈ bs)) = h0 at m0 nd0 lt0 not0
      have l0 : h0.length ≤ n := by
        have := nodupLen (l := h0) (m := List.range n) nd0 fun k hk => List.mem_range.mpr (lt0 k hk)
        rwa [List.length_range] at this
      refine Run.cons (RunS.set (i := 5) (EvI.ev (Ψ := fun d δ' => ∃ (hs : List Nat) (B2 : Bag), hs ≠ [] ∧ hs.length ≤ 5 ∧ (∀ k ∈ hs, k < n) ∧ d = .list (hs.map nI) ∧ δ' = [.ow a (bgO B2), .im (.int (n : Nat)), .im (.int 8), .im (.list (bs.map oN)), .no, .im (.list (h0.map nI)), .no, .no, .no]) (EvI.bin (EvP.i (.var (i := 5) rfl) (EvI.slice (EvI.mixB (i := 0) (q := a) g mx hr ⟨_, rfl⟩ (EvAP.ea (.cons (EvP.cast (EvP.comp (own := [("_law_kind", 4)]) (ds := rangeD 0 n) (b := fun d => decide (some (iOf d) ∈ bs.map (Option.map Int.ofNat))) (r := id) (f := fun d => [.ow a (bgO B1), .im (.int (n : Nat)), .im (.int 8), .im (.list (bs.map oN)), .im d, .im (.list (h0.map nI)), .no, .no, .no]) rfl nd (blkOk_by (N := nPa) (sc := defScope (top 71)) (by decide +kernel)) (EvItP.range1 (n := n) (.var (i := 1) rfl) (by omega) (B.free _ (by decide))) (fun d hd s H C cl fp => AsDV.name (i := 4) nd) (fun d hd s H C cl fp => ?_) (fun d hd _ s H C cl fp => .var (i := 4) rfl) (by rw [rangeD_length]; omega)) (congrArg Dat.list ?_)) .nil) ⟨B1, ((List.range n).filter fun k => decide (some k ∈ bs)).map nI, rfl, ?_, rfl, fun ys B2 hp => ?_⟩))))) fun d δ' ⟨hs, B2, hne, h5, hlt, e1, e2⟩ => ?_) nd)
      · rw [rangeN] at hd
        obtain ⟨z, _, rfl⟩ := List.mem_map.mp hd
        exact EvTP.cmp (.var (i := 4) rfl) (EvP.cast (.var (i := 3) rfl) (congrArg Dat.list (oN_oD bs))) Cmp2.inLO
      · rw [rangeN]
        exact keptN (fun k => decide (some k ∈ bs)) _ (fun k => by show (decide (some ((k : Nat) : Int) ∈ bs.map (Option.map Int.ofNat))) = _; rw [memO]) _
      · rw [List.length_map]
        have := List.length_filter_le (fun k => decide (some k ∈ bs)) (List.range n)
        rw [List.length_range] at this
        omega
      · obtain ⟨hs1, rfl, hp1⟩ := permMap nI hp _ rfl
        refine EvI.oneB (i := 0) (q := a) g one hr ⟨_, rfl⟩ (EvAP.ea (.cons (EvP.lst (ds := [.int 1, .int 2, .int 0, .int 6]) (.cons .int (.cons .int (.cons .int (.cons .int .nil)))) (Nat.le_of_ble_eq_true rfl)) .nil) ⟨B2, _, .inl rfl, by simp, by simp, rfl, fun d hd B3 => ?_⟩)
        have hd' : ∃ c : Int, d = .int c := by
          simp only [List.mem_cons, List.not_mem_nil, or_false] at hd
          rcases hd with rfl | rfl | rfl | rfl <;> exact ⟨_, rfl⟩
        obtain ⟨c, rfl⟩ := hd'
        obtain ⟨h2, ec, hsub⟩ := cutSub nI hs1 Option.none (some c)
        have nd1 : hs1.Nodup := hp1.nodup_iff.mpr (List.nodup_range.sublist List.filter_sublist)
        have in2 : ∀ k ∈ h2, k < n ∧ some k ∈ bs := fun k hk => by
          have := List.mem_filter.mp (hp1.mem_iff.mp (hsub.subset hk))
          exact ⟨List.mem_range.mp this.1, of_decide_eq_true this.2⟩
        have ndA : (h0 ++ h2).Nodup := List.nodup_append.mpr ⟨nd0, nd1.sublist hsub, fun x hx y hy e => not0 x hx (e ▸ (in2 y hy).2)⟩
        have ltA : ∀ k ∈ h0 ++ h2, k < n := fun k hk => by
          rcases List.mem_append.mp hk with m | m
          · exact lt0 k m
          · exact (in2 k m).1
        have lA : (h0 ++ h2).length ≤ n := by
          have := nodupLen (l := h0 ++ h2) (m := List.range n) ndA fun k hk => List.mem_range.mpr (ltA k hk)
          rwa [List.length_range] at this
        refine ⟨c, rfl, .list (h2.map nI), by rw [← ec]; exact Sl2.lst, .list ((h0 ++ h2).map nI), ?_, h0 ++ h2, B3, ?_, by omega, ltA, rfl, rfl⟩
        · rw [List.map_append]
          refine Op2.cat ?_
          rw [List.length_append] at lA
          rw [List.length_map, List.length_map]
          omega
        · exact List.ne_nil_of_mem (List.mem_append_left _ m0)
      · subst e1 e2
        refine Run.cons (RunS.set (i := 6) (Ev.newL (.nil ⟨Nat.zero_le _, fun qf => ?_⟩)) nd)
        refine Run.cons (RunS.for_ ((EvItP.list (EvP.cast (EvP.slice (u := some ((8 : Nat) : Int)) (.var (i := 5) rfl) EvOP.none_ (EvOP.some_ (.var (i := 2) rfl)) Sl2.lst) (congrArg Dat.list (cutAll _ (by rw [List.length_map]; omega))))).i ?_) rfl)
        refine ⟨fun j δ' => ∃ (cs : List (List Nat)) (x7 x8 : Cell), cs.length = j ∧ (∀ c ∈ cs, Ch bs c) ∧ δ' = [.ow a (bgO B2), .im (.int (n : Nat)), .im (.int 8), .im (.list (bs.map oN)), .no, .im (.list (hs.map nI)), .ow qf (.d (.list (cs.map tI))), x7, x8], ⟨[], .no, .no, rfl, fun c hc => absurd hc List.not_mem_nil, rfl⟩, fun j d δ' hj ⟨cs, x7, x8, lc, hc, e⟩ => ?_, fun δ' ⟨cs, x7, x8, lc, hc, e⟩ => ?_⟩
        · subst e
          have lj : j < hs.length := by
            have := (List.getElem?_eq_some_iff.mp hj).1
            rwa [List.length_map] at this
          rw [List.getElem?_map] at hj
          obtain ⟨hd0, hhd, rfl⟩ := Option.map_eq_some_iff.mp hj
          have hdn := hlt hd0 (List.mem_of_getElem? hhd)
          refine ⟨_, AsD.name (i := 7) nd, ?_⟩
          refine Run.cons (RunS.set (i := 8) (Ev.newL (EvA.cons (EvP.i (.var (i := 7) rfl) (EvA.nil ⟨(show (1 : Nat) ≤ sizeLine by decide), fun qc => ?_⟩)))) nd)
          refine Run.cons (RunS.while_ (fun m δ1 => ∃ (ks : List Nat) (z : Nat), (∀ t, Ch bs (z :: t) → Ch bs (ks ++ z :: t)) ∧ z < n ∧ ks.length ≤ z ∧ m = n - z ∧ δ1 = [.ow a (bgO B2), .im (.int (n : Nat)), .im (.int 8), .im (.list (bs.map oN)), .no, .im (.list (hs.map nI)), .ow qf (.d (.list (cs.map tI))), .im (nI hd0), .ow qc (.d (.list (ks.map nI ++ [nI z])))]) (n - hd0) ⟨[], hd0, fun t h => h, hdn, Nat.zero_le _, rfl, rfl⟩ fun m δ1 ⟨ks, z, hk, zn, lk, em, e⟩ => ?_)
          subst e
          have hz : ∃ o, bs[z]? = some o := ⟨bs[z]'(by omega), List.getElem?_eq_getElem (by omega)⟩
          obtain ⟨o, ho⟩ := hz
          have ix : atI (bs.map oN) ((z : Nat) : Int) = some (oN o) := atIn (by rw [List.getElem?_map, ho]; rfl)
          cases o with
          | none =>
            refine EvTP.t (c := false) (EvTP.readOwn (i := 8) rfl rfl (EvTP.cmp (EvP.ix (.var (i := 3) rfl) (EvP.ix (.var (i := 8) rfl) (EvP.neg .int) (Ix2.lst atNeg)) (Ix2.lst ix)) .non (Cmp2.notNone rfl))) ?_
            refine Run.give (i := 8) rfl ?_
            refine Run.one (RunS.expr (Ev.append (i := 6) (q := qf) (EvP.i (EvP.callT (T := "tuple") (.cons (.var (i := 8) rfl) .nil) CallD.tupL (B.free _ (by decide))) ⟨_, rfl, by rw [List.length_map]; omega, cs ++ [ks ++ [z]], .im (nI hd0), .im (.list (ks.map nI ++ [nI z])), ?_, fun c hc' => ?_, ?_⟩) ⟨_, rfl⟩))
            · rw [List.length_append, lc]; rfl
            · rcases List.mem_append.mp hc' with m | m
              · exact hc c m
              · rw [List.mem_singleton.mp m]; exact hk [] (.one ho)
            · have : (cs ++ [ks ++ [z]]).map tI = cs.map tI ++ [.tuple (ks.map nI ++ [nI z])] := by
                rw [List.map_append]
                show _ ++ [tI (ks ++ [z])] = _
                unfold tI
                rw [List.map_append]; rfl
              rw [this]; rfl
          | some y =>
            have zy := hb.up z y ho
            refine EvTP.t (c := true) (EvTP.readOwn (i := 8) rfl rfl (EvTP.cmp (EvP.ix (.var (i := 3) rfl) (EvP.ix (.var (i := 8) rfl) (EvP.neg .int) (Ix2.lst atNeg)) (Ix2.lst ix)) .non (Cmp2.notNone rfl))) ?_
            refine Run.one (RunS.expr (Ev.append (i := 8) (q := qc) (EvP.i (EvP.ix (.var (i := 3) rfl) (EvP.ownIx (i := 8) (q := qc) rfl (EvP.neg .int) atNeg) (Ix2.lst ix)) ⟨_, rfl, by rw [List.length_append, List.length_map]; show ks.length + 1 ≤ 1000; omega, n - y, by omega, ks ++ [z], y, fun t ht => ?_, by omega, by rw [List.length_append]; show ks.length + 1 ≤ y; omega, rfl, ?_⟩) ⟨_, rfl⟩))
            · have := hk (y :: t) (.cons ho ht)
              rw [List.append_assoc]
              exact this
            · rw [List.map_append]; rfl
        · subst e
          rw [List.length_map] at lc
          refine Run.one (RunS.ret (Ev.giveVar (i := 6) rfl ⟨_, bgO B2, rfl, rfl, fun _ => rfl, hΦ cs B2 (pathsOf hb hc (fun e => ?_) (by omega))⟩))
          rw [e] at lc
          exact hne (List.eq_nil_of_length_eq_zero lc.symm)
end
end K94
end

/-! text XK -/
section
set_option Elab.async false
set_option autoImplicit false
set_option linter.all false
set_option maxRecDepth 100000
set_option maxHeartbeats 1000000
/-! the law: names drawn, a house drawn -/
namespace K94
open PySem PySem.Spec PyProof.Rows L2
open PySem.W (AllAlike Sortable)
def menu : List Str := ["a", "b", "c", "d", "e", "ab", "ba", "zz", "call", "put", "drop", "kinds", "abcdef", "x", "zzzzzz"]
theorem menuOk : ∀ z ∈ menu, NameOk z := fun z hz => okB_ok (by
  have : menu.all okB = true := by decide +kernel
  exact List.all_eq_true.mp this z hz)
theorem menuNd : menu.Nodup := by decide +kernel
def nOf (d : Dat) : List Nat := match d with
  | .tuple ds => ds.map fun d => (iOf d).toNat
  | _ => []
theorem nOf_t (c : List Nat) : nOf (tI c) = c := by
  show (c.map nI).map (fun d => (iOf d).toNat) = c
  rw [List.map_map]
  have : (fun d => (iOf d).toNat) ∘ nI = id := funext fun k => rfl
  rw [this, List.map_id]
theorem eqvN : ∀ p q : List Nat, PyData.eqvAll (pyAll (p.map nI)) (pyAll (q.map nI)) = decide (p = q)
  | [], [] => rfl
  | [], _ :: _ => rfl
  | _ :: _, [] => rfl
  | a :: p, b :: q => by
    show ((((a : Nat) : Int) == ((b : Nat) : Int)) && PyData.eqvAll (pyAll (p.map nI)) (pyAll (q.map nI))) = _
    rw [eqvN p q]
    have e : (((a : Nat) : Int) == ((b : Nat) : Int)) = decide (a = b) := by
      by_cases h : a = b
      · subst h; simp
      · have : ((a : Nat) : Int) ≠ (b : Nat) := by omega
        simp [h, this]
    rw [e]
    by_cases h1 : a = b <;> by_cases h2 : p = q <;> simp [h1, h2]
theorem layN : ∀ p : List Nat, PyData.canLayAll0 (pyAll (p.map nI)) = true
  | [] => rfl
  | a :: p => by
    show (true && PyData.canLayAll0 (pyAll (p.map nI))) = true
    rw [layN p]; rfl
theorem depthN : ∀ p : List Nat, PyData.depthAll (pyAll (p.map nI)) = 0
  | [] => rfl
  | a :: p => by
    show max 0 (PyData.depthAll (pyAll (p.map nI))) = 0
    rw [depthN p]; rfl
theorem shapedN (p : List Nat) : SeqAt.shaped (tI p).py = true := by
  refine Bool.and_eq_true_iff.mpr ⟨layN p, decide_eq_true ?_⟩
  show PyData.depthAll (pyAll (p.map nI)) + 1 ≤ 64
  rw [depthN]; decide
theorem layTI : ∀ ps : List (List Nat), PyData.canLayAll0 (pyAll (ps.map tI)) = true
  | [] => rfl
  | a :: p => by
    show (PyData.canLayAll0 (pyAll (a.map nI)) && PyData.canLayAll0 (pyAll (p.map tI))) = true
    rw [layN, layTI p]; rfl
theorem depthTI : ∀ ps : List (List Nat), PyData.depthAll (pyAll (ps.map tI)) ≤ 1
  | [] => Nat.zero_le _
  | a :: p => by
    show max (PyData.depthAll (pyAll (a.map nI)) + 1) (PyData.depthAll (pyAll (p.map tI))) ≤ 1
    rw [depthN]
    exact Nat.max_le.mpr ⟨Nat.le_refl _, depthTI p⟩
theorem shapedTI (ps : List (List Nat)) : SeqAt.shaped (Dat.list (ps.map tI)).py = true := by
  refine Bool.and_eq_true_iff.mpr ⟨layTI ps, decide_eq_true ?_⟩
  show PyData.depthAll (pyAll (ps.map tI)) + 1 ≤ 64
  have := depthTI ps
  omega
theorem inTI (c : List Nat) : ∀ ps : List (List Nat), ((pyAll (ps.map tI)).any fun z => PyData.eqv z (tI c).py) = decide (c ∈ ps)
  | [] => by simp [pyAll]
  | p :: ps => by
    show (PyData.eqvAll (pyAll (p.map nI)) (pyAll (c.map nI)) || (pyAll (ps.map tI)).any fun z => PyData.eqv z (tI c).py) = _
    rw [eqvN, inTI c ps]
    by_cases h1 : p = c
    · subst h1; simp
    · by_cases h2 : c ∈ ps
      · simp [h2]
      · have : c ≠ p := fun e => h1 e.symm
        simp [h1, h2, this]
theorem alikeC (cs : List (List Str)) : AllAlike ((cs.map cD).map Dat.py) := fun d hd d' hd' => by
  obtain ⟨_, h1, rfl⟩ := List.mem_map.mp hd
  obtain ⟨c, _, rfl⟩ := List.mem_map.mp h1
  obtain ⟨_, h2, rfl⟩ := List.mem_map.mp hd'
  obtain ⟨c', _, rfl⟩ := List.mem_map.mp h2
  exact alikeS c c'
theorem sortableC {cs : List (List Str)} (ne : ∀ c ∈ cs, c ≠ []) : Sortable ((cs.map cD).map Dat.py) := .inl fun d hd => by
  obtain ⟨_, h1, rfl⟩ := List.mem_map.mp hd
  obtain ⟨c, hc, rfl⟩ := List.mem_map.mp h1
  cases c with
  | nil => exact absurd rfl (ne [] hc)
  | cons x r => exact ⟨.str x, pyAll (dS r), rfl⟩
theorem EvAP.strs {X : Cx} {δ : List Cell} : ∀ {es : List Expr} {zs : List Str}, Paired (fun e z => ∃ j pos, e = .Constant (.str z) j pos) es zs → EvAP X δ es (dS zs)
  | _, _, .nil => .nil
  | _, _, .cons ⟨j, pos, e⟩ t => by
    subst e
    exact .cons .str (EvAP.strs t) rfl
section
variable {P : Program} {w : World} {K : PySem.W.Frag} {mg : Str → Option Value} {base : Heap} {k : Nat} {C : Addr}
/-! ### _law_named -/
def rNd : Ow → List Dat → (Dat → Ow → Prop) → Prop := fun o ds Φ => ∃ (B : Bag) (n : Nat) (cs : List (List Nat)), n ≤ 5 ∧ PathsOk n cs ∧ o = bgO B ∧ ds = [.int (n : Nat), .list (cs.map tI), .int 8] ∧ ∀ (h : Hs) (B' : Bag), HouseOk h → Nest h → h.ks.length ≤ 5 → Φ h.dat (bgO B')
def nNd : List Str := ["_law_bag_here", "_law_many", "_law_found", "_law_calls", "_law_kept", "_law_call", "_law_numbers", "_law_kind", "_law_menu", "_law_names", "_law_to"]
theorem scNd : FnScope nNd ["_law_bag_here", "_law_many", "_law_found", "_law_calls"] (defScope (top 72)) := ⟨rfl, rfl, rfl, by decide +kernel, rfl, by decide +kernel, by decide +kernel⟩
theorem okNd (B : Bs K mg) (F : Stands K mg "_law_named" (top 72)) (tk : Has P w K mg base 1 "_law_take" (BorSp K rTake)) (mx : Has P w K mg base 2 "_law_mixed" (BorSp K rMix)) : Has P w K mg base 3 "_law_named" (BorSp K rNd) := by
  refine Has.bor F B scNd (fun _ _ _ _ _ _ us hl => match us, hl with | [_, _, _, _], _ => rfl) (fun o ds d ⟨_, _, _, _, _, _, e, _⟩ => by rw [e]; rfl) fun a o ds Φ ⟨G, n, cs, n5, po, ho, hds, hΦ⟩ f cdv A outer s H g hr => ?_
  subst ho hds
  have nd := scNd.nd
  have t1000 : (1000 : Nat) ≤ sizeLine := by decide
  obtain ⟨mn, emn⟩ : ∃ mn : List Str, mn = menu := ⟨_, rfl⟩
  have mnLen : mn.length = 15 := by rw [emn]; rfl
  have mnNd : mn.Nodup := by rw [emn]; exact menuNd
  have mnOk : ∀ z ∈ mn, NameOk z := by rw [emn]; exact menuOk
  refine Run.cons (RunS.set (i := 4) (Ev.newL (.nil ⟨Nat.zero_le _, fun q => ?_⟩)) nd)
  refine Run.cons (RunS.for_ ((EvItP.list (.var (i := 2) rfl)).i ?_) rfl)
  refine ⟨fun j δ' => ∃ (ks : List (List Nat)) (x5 : Cell), ks.Nodup ∧ ks.length ≤ j ∧ (∀ c, c ∈ ks ↔ c ∈ cs.take j) ∧ δ' = [.ow a (bgO G), .im (.int (n : Nat)), .im (.list (cs.map tI)), .im (.int 8), .ow q (.d (.list (ks.map tI))), x5, .no, .no, .no, .no, .no], ⟨[], .no, List.nodup_nil, Nat.le_refl _, fun c => by simp, rfl⟩, fun j d δ' hj ⟨ks, x5, nk, lk, mk, e⟩ => ?_, fun δ' ⟨ks, x5, nk, lk, mk, e⟩ => ?_⟩
  · subst e
    have lj : j < cs.length := by
      have := (List.getElem?_eq_some_iff.mp hj).1
      rwa [List.length_map] at this
    rw [List.getElem?_map] at hj
    obtain ⟨c, hc, rfl⟩ := Option.map_eq_some_iff.mp hj
    have few := po.few
    have stay : c ∈ ks → ∀ x, x ∈ ks ↔ x ∈ cs.take (j + 1) := fun hm x => by
      rw [mk x]
      refine ⟨fun h => ?_, fun h => ?_⟩
      · rw [List.take_add_one]; exact List.mem_append_left _ h
      · rcases takeMem hc h with m | m
        · exact m
        · rw [m]; exact (mk c).mp hm
    refine ⟨_, AsD.name (i := 5) nd, ?_⟩
    refine Run.one (RunS.if_ (EvTP.t (c := !decide (c ∈ ks) && decide ((ks.length : Int) < 8)) (EvWP.t (EvWP.and (EvTP.readOwn (i := 4) (q := q) (o := .d (.list (ks.map tI))) (dd := .list (ks.map tI)) rfl rfl ?_) fun _ => EvWP.and1 ?_)) ?_))
    · rw [← inTI c ks]
      exact EvTP.cmp (.var (i := 5) rfl) (.var (i := 4) rfl) (Cmp2.notInL g (shapedN c) (shapedTI ks))
    · refine EvTP.readOwn (i := 4) (q := q) (o := .d (.list (ks.map tI))) (dd := .list (ks.map tI)) rfl rfl (EvTP.cmp (EvP.cast (d' := .int (ks.length : Nat)) (EvP.callB (fid := "len") (.cons (.var (i := 4) rfl) .nil) CallD.lenL (B.free _ (by decide))) (by rw [List.length_map])) (.var (i := 3) rfl) Cmp2.lt)
    · have l8 : decide ((ks.length : Int) < 8) = true := decide_eq_true (by omega)
      rw [l8, Bool.and_true]
      by_cases hm : c ∈ ks
      · rw [decide_eq_true hm]
        exact Run.nil ⟨ks, _, nk, by omega, stay hm, rfl⟩
      · rw [decide_eq_false hm]
        refine Run.one (RunS.expr (Ev.append (i := 4) (q := q) (EvP.i (.var (i := 5) rfl) ⟨_, rfl, by rw [List.length_map]; omega, ks ++ [c], .im (tI c), ?_, by rw [List.length_append]; show ks.length + 1 ≤ j + 1; omega, fun x => ?_, by rw [List.map_append]; rfl⟩) ⟨_, rfl⟩))
        · refine List.nodup_append.mpr ⟨nk, by simp, fun x hx y hy e => hm ?_⟩
          rw [List.mem_singleton.mp hy] at e
          rwa [← e]
        · rw [List.take_add_one, hc, Option.toList_some, List.mem_append, List.mem_append, mk x]
  · subst e
    rw [List.length_map] at lk
    rw [List.length_map, List.take_length] at mk
    refine Run.give (i := 4) rfl ?_
    have few := po.few
    have po' : PathsOk n ks := by
      refine ⟨?_, by omega, fun c hc => po.full c ((mk c).mp hc), fun c hc => po.up c ((mk c).mp hc), fun c hc => po.lt c ((mk c).mp hc), fun c hc c' hc' => po.nest c ((mk c).mp hc) c' ((mk c').mp hc')⟩
      obtain ⟨c, hc⟩ := List.exists_mem_of_ne_nil _ po.ne
      exact List.ne_nil_of_mem ((mk c).mpr hc)
    refine Run.cons (RunS.setComp (i := 6) (own := [("_law_kind", 7)]) (ds := rangeD 0 n) (b := fun d => !((ks.filter fun c => decide ((iOf d).toNat ∈ c)).map tI).isEmpty) (r := id) (f := fun d => [.ow a (bgO G), .im (.int (n : Nat)), .im (.list (cs.map tI)), .im (.int 8), .im (.list (ks.map tI)), x5, .no, .im d, .no, .no, .no]) rfl nd (blkOk_by (N := nNd) (sc := defScope (top 72)) (by decide +kernel)) (EvItP.range1 (n := n) (.var (i := 1) rfl) (by omega) (B.free _ (by decide))) (fun d hd s H C cl fp => AsDV.name (i := 7) nd) (fun d hd s H C cl fp => ?_) (fun d hd _ s H C cl fp => .var (i := 7) rfl) (by rw [rangeD_length]; omega) ?_)
    · rw [rangeN] at hd
      obtain ⟨z, _, rfl⟩ := List.mem_map.mp hd
      refine EvTP.cmp (EvP.cast (EvP.comp (own := [("_law_call", 5)]) (ds := ks.map tI) (b := fun d => decide (z ∈ nOf d)) (r := id) (f := fun d => [.ow a (bgO G), .im (.int (n : Nat)), .im (.list (cs.map tI)), .im (.int 8), .im (.list (ks.map tI)), .im d, .no, .im (nI z), .no, .no, .no]) rfl nd (blkIn (N := nNd) (sc := defScope (top 72)) (by decide +kernel)) (EvItP.list (.var (i := 4) rfl)) (fun d hd s H C cl fp => AsDV.name (i := 5) nd) (fun d hd s H C cl fp => ?_) (fun d hd _ s H C cl fp => .var (i := 5) rfl) (by rw [List.length_map]; omega)) ?_) (.lst .nil) (Cmp2.neNil g.blk)
      · obtain ⟨c, _, rfl⟩ := List.mem_map.mp hd
        show EvTP _ _ _ (decide (z ∈ nOf (tI c)))
        rw [nOf_t]
        have e0 : decide (z ∈ c) = decide (((z : Nat) : Int) ∈ c.map fun k => ((k : Nat) : Int)) := decide_eq_decide.mpr ⟨fun h => List.mem_map.mpr ⟨z, h, rfl⟩, fun h => by
          obtain ⟨y, hy, ey⟩ := List.mem_map.mp h
          have : y = z := by omega
          rwa [← this]⟩
        rw [e0]
        exact EvTP.cmp (.var (i := 7) rfl) (EvP.cast (.var (i := 5) rfl) (by show Dat.tuple (c.map nI) = Dat.tuple _; rw [List.map_map]; rfl)) Cmp2.inTI
      · refine congrArg Dat.list ?_
        unfold keptD
        rw [List.filter_map, List.map_id]
        exact congrArg _ (List.filter_congr fun c _ => by show decide (z ∈ nOf (tI c)) = _; rw [nOf_t]; rfl)
    · have e0 : keptD (fun d => !((ks.filter fun c => decide ((iOf d).toNat ∈ c)).map tI).isEmpty) id (rangeD 0 n) = ((List.range n).filter fun k => !((ks.filter fun c => decide (k ∈ c)).map tI).isEmpty).map nI := by
        rw [rangeN]
        exact keptN (fun k => !((ks.filter fun c => decide (k ∈ c)).map tI).isEmpty) _ (fun k => rfl) _
      rw [e0]
      have up : ((List.range n).filter fun k => !((ks.filter fun c => decide (k ∈ c)).map tI).isEmpty).Pairwise (· < ·) := List.pairwise_lt_range.sublist List.filter_sublist
      have mem : ∀ k, k ∈ ((List.range n).filter fun k => !((ks.filter fun c => decide (k ∈ c)).map tI).isEmpty) ↔ ∃ c ∈ ks, k ∈ c := fun k => by
        rw [List.mem_filter, List.mem_range]
        constructor
        · rintro ⟨_, h⟩
          have : ks.filter (fun c => decide (k ∈ c)) ≠ [] := fun e => by rw [e] at h; cases h
          obtain ⟨c, hc⟩ := List.exists_mem_of_ne_nil _ this
          have := List.mem_filter.mp hc
          exact ⟨c, this.1, of_decide_eq_true this.2⟩
        · rintro ⟨c, hc, hk⟩
          refine ⟨po'.lt c hc k hk, ?_⟩
          have : c ∈ ks.filter fun c => decide (k ∈ c) := List.mem_filter.mpr ⟨hc, decide_eq_true hk⟩
          cases hf : ks.filter fun c => decide (k ∈ c) with
          | nil => rw [hf] at this; exact absurd this List.not_mem_nil
          | cons y ys => rfl
      generalize ((List.range n).filter fun k => !((ks.filter fun c => decide (k ∈ c)).map tI).isEmpty) = ns at up mem
      have nsd : ns.Nodup := up.imp fun h => by omega
      have l5 : ns.length ≤ 5 := by
        have := nodupLen (l := ns) (m := List.range n) nsd fun k hk => by
          obtain ⟨c, hc, hkc⟩ := (mem k).mp hk
          exact List.mem_range.mpr (po'.lt c hc k hkc)
        rw [List.length_range] at this
        omega
      have key : ∀ (δ : List Cell) (e : Expr) (p p2 : Pos) (Ω : Out → Prop) (he : EvP (CxD P w K mg base nNd "_law_named" (top 72) f cdv A outer s H) δ e (lS mn)) (h2 : swapsWith e (some (.Name "_law_menu" p)) p2.line (CxD P w K mg base nNd "_law_named" (top 72) f cdv A outer s H).env = pure false) (h3 : Ω (.nx (δ.set 8 (.im (lS mn))))), RunS (CxD P w K mg base nNd "_law_named" (top 72) f cdv A outer s H) δ (.Assign [.Name "_law_menu" p] e p2) Ω := fun δ e p p2 Ω he h2 h3 => RunS.setP (i := 8) he h3 nd rfl (.inl rfl) h2 (.inr rfl)
      refine Run.cons ?_
      refine key _ _ _ _ _ ?_ ?_ ?_
      · refine EvP.lst ?_ ?_
        · refine EvAP.strs ?_
          rw [emn]
          unfold menu
          repeat (first | exact .nil | refine .cons ⟨_, _, rfl⟩ ?_)
        · rw [List.length_map, mnLen]; decide
      · rfl
      have nameStep : ∀ zs : List Str, zs.Perm mn → cutD (dS zs) Option.none (some ((ns.length : Nat) : Int)) = dS (zs.take ns.length) ∧ ns.length = (zs.take ns.length).length ∧ (zs.take ns.length).Nodup ∧ ∀ z ∈ zs.take ns.length, NameOk z := fun zs hp => by
        have lz : zs.length = 15 := hp.length_eq.trans mnLen
        refine ⟨?_, by rw [List.length_take]; omega, (hp.nodup_iff.mpr mnNd).sublist (List.take_sublist _ _), fun z hz => mnOk z (hp.mem_iff.mp (List.mem_of_mem_take hz))⟩
        rw [cutTo _ (by rw [List.length_map]; omega)]; exact List.map_take.symm
      have lenN : ∀ {δ : List Cell}, δ[6]? = some (.im (.list (ns.map nI))) → True := fun _ => trivial
      refine Run.cons (RunS.set (i := 9) (EvI.ev (Ψ := fun d δ' => ∃ (nms : List Str) (B2 : Bag), ns.length = nms.length ∧ nms.Nodup ∧ (∀ z ∈ nms, NameOk z) ∧ d = lS nms ∧ δ' = [.ow a (bgO B2), .im (.int (n : Nat)), .im (.list (cs.map tI)), .im (.int 8), .im (.list (ks.map tI)), x5, .im (.list (ns.map nI)), .no, .im (lS mn), .no, .no]) (EvI.ifExp (EvT.cmp (EvI.takeB (i := 0) (q := a) g tk (hr.mono (by decide)) ⟨_, rfl⟩ (EvAP.ea (.cons .int .nil) ⟨G, 3, rfl, by decide, by decide, rfl, fun v B2 hv => EvP.i .int ⟨_, Cmp2.gt, ?_⟩⟩)))) fun d δ' ⟨nms, B2, ln, nn, okn, e1, e2⟩ => ?_) nd)
      · split
        · refine EvI.slice (EvI.mixB (i := 0) (q := a) g mx hr ⟨_, rfl⟩ (EvAP.ea (.cons (.var (i := 8) rfl) .nil) ⟨B2, dS mn, rfl, by rw [List.length_map, mnLen]; decide, rfl, fun ys B3 hp => ?_⟩))
          obtain ⟨zs, rfl, hz⟩ := permS hp
          obtain ⟨s1, s2, s3, s4⟩ := nameStep zs hz
          exact EvP.i (EvP.cast (d' := .int (ns.length : Nat)) (EvP.callB (fid := "len") (.cons (.var (i := 6) rfl) .nil) CallD.lenL (B.free _ (by decide))) (by rw [List.length_map])) ⟨_, rfl, lS (zs.take ns.length), by show Sl2 _ (Dat.list (dS zs)) _ _ (Dat.list (dS (zs.take ns.length))); rw [← s1]; exact Sl2.lst, zs.take ns.length, B3, s2, s3, s4, rfl, rfl⟩
        · obtain ⟨s1, s2, s3, s4⟩ := nameStep mn (.refl _)
          exact EvP.i (EvP.cast (EvP.slice (u := some ((ns.length : Nat) : Int)) (.var (i := 8) rfl) EvOP.none_ (EvOP.some_ (EvP.cast (d' := .int (ns.length : Nat)) (EvP.callB (fid := "len") (.cons (.var (i := 6) rfl) .nil) CallD.lenL (B.free _ (by decide))) (by rw [List.length_map]))) Sl2.lst) (congrArg Dat.list s1)) ⟨mn.take ns.length, B2, s2, s3, s4, rfl, rfl⟩
      · subst e1 e2
        have ez : zipD (ns.map nI) (dS nms) = ((ns.zip nms).map fun p : Nat × Str => ((.inl ((p.1 : Nat) : Int) : L2.Key), Dat.str p.2)).map fun p => .tuple [kD p.1, p.2] := by
          unfold zipD
          rw [List.zip_map, List.map_map, List.map_map]; rfl
        have ndz : ((ns.zip nms).map fun p : Nat × Str => (.inl ((p.1 : Nat) : Int) : L2.Key)).Nodup := by
          have e : ((ns.zip nms).map fun p : Nat × Str => (.inl ((p.1 : Nat) : Int) : L2.Key)) = ns.map fun k => (.inl ((k : Nat) : Int) : L2.Key) := by
            have : (ns.zip nms).map (·.1) = ns := List.map_fst_zip (by omega)
            conv => rhs; rw [← this]
            rw [List.map_map]; rfl
          rw [e]
          exact nodupMap (fun x y e => by injection e with e; omega) nsd
        refine Run.cons (RunS.setP (i := 10) (d := .dict ((ns.zip nms).map fun p : Nat × Str => (.int ((p.1 : Nat) : Int), .str p.2))) (EvP.cast (EvP.callT (T := "dict") (.cons (EvP.cast (EvP.listZip g (.var (i := 6) rfl) (.var (i := 9) rfl) (by rw [List.length_map, List.length_map]; omega) (B.free _ (by decide)) (B.free _ (by decide))) (congrArg Dat.list ez)) .nil) (CallD.dictP g) (B.free _ (by decide))) (congrArg Dat.dict (dictOf_nd (fun p : Nat × Str => (.inl ((p.1 : Nat) : Int) : L2.Key)) (fun p => .str p.2) ndz))) ?_ nd)
        have toAt : ∀ k ∈ ns, dlook ((ns.zip nms).map fun p : Nat × Str => (Dat.int ((p.1 : Nat) : Int), Dat.str p.2)) (.inl ((k : Nat) : Int)) = some (.str (toF ns nms k)) := fun k hk => by
          obtain ⟨i, hi⟩ := List.getElem?_of_mem hk
          have hz : (ns.zip nms)[i]? = some (k, toF ns nms k) := List.getElem?_zip_eq_some.mpr ⟨hi, toF_at nsd ln hi⟩
          refine dlook_map (fun p : Nat × Str => (.inl ((p.1 : Nat) : Int) : L2.Key)) (fun p => .str p.2) _ (x := (k, toF ns nms k)) (fun y hy e => ?_) (List.mem_of_getElem? hz) rfl
          obtain ⟨j, hj⟩ := List.getElem?_of_mem hy
          obtain ⟨j1, j2⟩ := List.getElem?_zip_eq_some.mp hj
          have ek : y.1 = k := by injection e with e; omega
          rw [toF_at nsd ln j1, ek] at j2
          exact congrArg Dat.str (Option.some.inj j2).symm
        have atoms : Atoms ((ns.zip nms).map fun p : Nat × Str => (Dat.int ((p.1 : Nat) : Int), Dat.str p.2)) := atomsI (fun p : Nat × Str => ((p.1 : Nat) : Int)) _ _
        obtain ⟨ho, hn, hl⟩ := houseDrawn po' nk n5 up mem ln nn okn
        refine Run.one (RunS.retP (d := (mkHs ns nms ks).dat) (EvP.tup (.cons (EvP.callT (T := "tuple") (.cons (.var (i := 9) rfl) .nil) CallD.tupL (B.free _ (by decide))) (.cons (EvP.callT (T := "tuple") (.cons (EvP.cast (EvP.callB (fid := "sorted") (.cons (EvP.cast (EvP.comp (own := [("_law_call", 5)]) (ds := ks.map tI) (b := fun _ => true) (r := fun d => cD ((nOf d).map (toF ns nms))) (f := fun d => [.ow a (bgO B2), .im (.int (n : Nat)), .im (.list (cs.map tI)), .im (.int 8), .im (.list (ks.map tI)), .im d, .im (.list (ns.map nI)), .no, .im (lS mn), .im (lS nms), .im (.dict ((ns.zip nms).map fun p : Nat × Str => (.int ((p.1 : Nat) : Int), .str p.2)))]) rfl nd (blkOk_by (N := nNd) (sc := defScope (top 72)) (by decide +kernel)) (EvItP.list (.var (i := 4) rfl)) (fun d hd s H C cl fp => AsDV.name (i := 5) nd) (fun d hd s H C cl fp => ?_) (fun d hd _ s H C cl fp => ?_) (by rw [List.length_map]; omega)) (congrArg Dat.list ?_)) .nil) (CallD.sorted g (alikeC (ks.map fun c => c.map (toF ns nms))) (sortableC fun c hc => ?_) (fun d hd => ?_) ?_) (B.free _ (by decide))) (congrArg Dat.list (srtC _))) .nil) CallD.tupL (B.free _ (by decide))) .nil)) (Nat.le_of_ble_eq_true rfl)) ⟨_, bgO B2, rfl, rfl, fun _ => rfl, hΦ _ B2 ho hn hl⟩)
        · rfl
        · obtain ⟨c, hc, rfl⟩ := List.mem_map.mp hd
          rw [nOf_t]
          have lc : c.length ≤ 5 := by
            have := nodupLen (l := c) (m := ns) ((po'.up c hc).imp fun h => by omega) fun k hk => (mem k).mpr ⟨c, hc, hk⟩
            omega
          refine EvP.callT (T := "tuple") (.cons (EvP.cast (EvP.comp (own := [("_law_kind", 7)]) (ds := c.map nI) (b := fun _ => true) (r := fun d => .str (toF ns nms (iOf d).toNat)) (f := fun d => [.ow a (bgO B2), .im (.int (n : Nat)), .im (.list (cs.map tI)), .im (.int 8), .im (.list (ks.map tI)), .im (tI c), .im (.list (ns.map nI)), .im d, .im (lS mn), .im (lS nms), .im (.dict ((ns.zip nms).map fun p : Nat × Str => (.int ((p.1 : Nat) : Int), .str p.2)))]) rfl nd (blkIn (N := nNd) (sc := defScope (top 72)) (by decide +kernel)) (EvItP.tup (.var (i := 5) rfl)) (fun d hd s H C cl fp => AsDV.name (i := 7) nd) (fun d hd s H C cl fp => ?_) (fun d hd _ s H C cl fp => ?_) (by rw [List.length_map]; omega)) (congrArg Dat.list ?_)) .nil) CallD.tupF (B.free _ (by decide))
          · rfl
          · obtain ⟨k, hk, rfl⟩ := List.mem_map.mp hd
            exact EvP.dgetK g.blk.blk (k := .inl ((k : Nat) : Int)) (.var (i := 10) rfl) (.var (i := 7) rfl) (.int _) atoms (toAt k ((mem k).mpr ⟨c, hc, hk⟩))
          · rw [keptAll, List.map_map]
            show _ = (c.map (toF ns nms)).map Dat.str
            rw [List.map_map]; rfl
        · rw [keptAll, List.map_map, List.map_map]
          exact List.map_congr_left fun c _ => by show cD ((nOf (tI c)).map (toF ns nms)) = _; rw [nOf_t]; rfl
        · obtain ⟨c', hc', rfl⟩ := List.mem_map.mp hc
          exact fun e => po'.full c' hc' (List.map_eq_nil_iff.mp e)
        · obtain ⟨c, _, rfl⟩ := List.mem_map.mp hd
          show PyData.depthAll (pyAll (dS c)) + 1 ≤ 50
          rw [depthS]; decide
        · rw [List.length_map, List.length_map]; omega
/-! ### _law_nested_house -/
def rNh : Ow → List Dat → (Dat → Ow → Prop) → Prop := fun o ds Φ => ∃ (B : Bag) (n : Nat), 1 ≤ n ∧ n ≤ 5 ∧ o = bgO B ∧ ds = [.int (n : Nat), .int 8] ∧ ∀ (h : Hs) (B' : Bag), HouseOk h → Nest h → h.ks.length ≤ 5 → Φ h.dat (bgO B')
def nNh : List Str := ["_law_bag_here", "_law_kinds", "_law_calls", "_law_many"]
theorem scNh : FnScope nNh ["_law_bag_here", "_law_kinds", "_law_calls"] (defScope (top 70)) := ⟨rfl, rfl, rfl, by decide +kernel, rfl, by decide +kernel, by decide +kernel⟩
theorem okNh (B : Bs K mg) (F : Stands K mg "_law_nested_house" (top 70)) (one : Has P w K mg base 2 "_law_one" (BorSp K rOne)) (pa : Has P w K mg base 3 "_law_paths" (BorSp K rPa)) (nm : Has P w K mg base 3 "_law_named" (BorSp K rNd)) : Has P w K mg base 4 "_law_nested_house" (BorSp K rNh) := by
  refine Has.bor F B scNh (fun _ _ _ _ _ _ us hl => match us, hl with | [_, _, _], _ => rfl) (fun o ds d ⟨_, _, _, _, _, e, _⟩ => by rw [e]; rfl) fun a o ds Φ ⟨G, n, n1, n5, ho, hds, hΦ⟩ f cdv A outer s H g hr => ?_
  subst ho hds
  have nd := scNh.nd
  refine Run.cons (RunS.set (i := 3) (EvI.ev (Ψ := fun d δ' => ∃ (m : Nat) (B1 : Bag), 1 ≤ m ∧ m ≤ 5 ∧ d = .int (m : Nat) ∧ δ' = [.ow a (bgO B1), .im (.int (n : Nat)), .im (.int 8), .no]) (EvI.callB (fid := "min") (EvA.cons (EvP.i (.var (i := 1) rfl) (EvA.cons (EvI.oneB (i := 0) (q := a) g one (hr.mono (by decide)) ⟨_, rfl⟩ (EvAP.ea (.cons (EvP.lst (ds := [.int 2, .int 3, .int 1, .int 4, .int 3, .int (n : Nat), .int 5, .int 2]) (.cons .int (.cons .int (.cons .int (.cons .int (.cons .int (.cons (.var (i := 1) rfl) (.cons .int (.cons .int .nil)))))))) (Nat.le_of_ble_eq_true rfl)) .nil) ⟨G, _, .inl rfl, by simp, by simp, rfl, fun d hd B1 => ?_⟩))))) (B.free _ (by decide))) fun d δ' ⟨m, B1, m1, m5, e1, e2⟩ => ?_) nd)
  · have hd' : ∃ c : Nat, 1 ≤ c ∧ d = .int (c : Nat) := by
      simp only [List.mem_cons, List.not_mem_nil, or_false] at hd
      rcases hd with rfl | rfl | rfl | rfl | rfl | rfl | rfl | rfl
      · exact ⟨2, by decide, rfl⟩
      · exact ⟨3, by decide, rfl⟩
      · exact ⟨1, by decide, rfl⟩
      · exact ⟨4, by decide, rfl⟩
      · exact ⟨3, by decide, rfl⟩
      · exact ⟨n, n1, rfl⟩
      · exact ⟨5, by decide, rfl⟩
      · exact ⟨2, by decide, rfl⟩
    obtain ⟨c, c1, rfl⟩ := hd'
    refine EvA.nil ⟨_, CallD.min2 g, min n c, B1, by omega, by omega, ?_, rfl⟩
    congr 1
    omega
  · subst e1 e2
    refine Run.one (RunS.retI (EvI.ownB (i := 0) (q := a) g nm hr ⟨_, rfl⟩ (EvA.cons (EvP.i (.var (i := 3) rfl) (EvA.cons (EvI.ownB (i := 0) (q := a) g pa hr ⟨_, rfl⟩ (EvAP.ea (.cons (.var (i := 3) rfl) (.cons (.var (i := 2) rfl) .nil)) ⟨_, fun d o' => ∃ (cs : List (List Nat)) (B2 : Bag), PathsOk m cs ∧ d = .list (cs.map tI) ∧ o' = bgO B2, rfl, ⟨B1, m, m1, m5, rfl, rfl, fun cs B2 h => ⟨cs, B2, h, rfl, rfl⟩⟩, fun d o' ⟨cs, B2, hp, e1, e2⟩ _ => ?_⟩)))))))
    subst e1 e2
    refine EvA.cons (EvP.i (.var (i := 2) rfl) (EvA.nil ⟨_, fun d o' => ∃ (h : Hs) (B3 : Bag), HouseOk h ∧ Nest h ∧ h.ks.length ≤ 5 ∧ d = h.dat ∧ o' = bgO B3, rfl, ⟨B2, m, cs, m5, hp, rfl, rfl, fun h B3 h1 h2 h3 => ⟨h, B3, h1, h2, h3, rfl, rfl⟩⟩, fun d o' ⟨h, B3, h1, h2, h3, e1, e2⟩ _ => ?_⟩))
    subst e1 e2
    exact ⟨_, bgO B3, rfl, rfl, fun _ => rfl, hΦ h B3 h1 h2 h3⟩
end
end K94
end

/-! text XL -/
section
set_option Elab.async false
set_option autoImplicit false
set_option linter.all false
set_option maxRecDepth 100000
set_option maxHeartbeats 2000000
/-! plain facts about logs -/
namespace K94
open PySem PySem.Spec PyProof.Rows L2
def isPutR : Row → Int
  | .put _ _ => 1
  | .call _ => 0
def putsN (l : List Row) : Int := (l.map isPutR).sum
theorem putsN_snoc (l : List Row) (r : Row) : putsN (l ++ [r]) = putsN l + isPutR r := by
  unfold putsN
  rw [List.map_append, List.sum_append]; simp
theorem cnt_fold (k : Str) : ∀ (ts : List (Str × Str)) (am : Str → Int), (ts.foldl (fun am t => upA am t.2 (am t.2 + 1)) am) k = am k + ((ts.map (·.2)).count k : Nat)
  | [], am => by simp
  | t :: ts, am => by
    show (ts.foldl (fun am t => upA am t.2 (am t.2 + 1)) (upA am t.2 (am t.2 + 1))) k = _
    rw [cnt_fold k ts]
    rw [List.map_cons, List.count_cons]
    unfold upA
    by_cases h : k = t.2
    · subst h
      simp
      omega
    · have h' : ¬ t.2 = k := fun e => h e.symm
      simp [h, h']
theorem cntA_eq (ts : List (Str × Str)) (k : Str) : cntA ts k = ((ts.map (·.2)).count k : Nat) := by
  unfold cntA
  rw [cnt_fold]
  simp
theorem findNone {ts : List (Str × Str)} {k : Str} : (ts.find? fun t => decide (t.2 = k)) = none ↔ (ts.map (·.2)).count k = 0 := by
  rw [List.count_eq_zero, List.find?_eq_none]
  constructor
  · intro h hm
    obtain ⟨t, ht, e⟩ := List.mem_map.mp hm
    exact h t ht (decide_eq_true e)
  · intro h t ht he
    exact h (List.mem_map.mpr ⟨t, ht, of_decide_eq_true he⟩)
theorem first_taken (ts : List (Str × Str)) (am : Str → Int) (ham : ∀ k, am k = ((ts.map (·.2)).count k : Nat)) : ∀ c : List Str, takenK am c = (firstOf ts c).map (·.2)
  | [] => rfl
  | k :: c => by
    unfold takenK firstOf
    rw [List.findSome?_cons]
    cases hf : ts.find? fun t => decide (t.2 = k) with
    | none =>
      have z := findNone.mp hf
      have : ¬ 0 < am k := by rw [ham k, z]; decide
      rw [List.filter_cons_of_neg (p := fun k => decide (0 < am k)) (by simpa using this)]
      exact first_taken ts am ham c
    | some t =>
      have hp : 0 < am k := by
        rw [ham k]
        have : (ts.map (·.2)).count k ≠ 0 := fun e => by rw [findNone.mpr e] at hf; cases hf
        omega
      rw [List.filter_cons_of_pos (p := fun k => decide (0 < am k)) (decide_eq_true hp)]
      have := List.find?_some hf
      have e : t.2 = k := of_decide_eq_true this
      show some k = some t.2
      rw [e]
theorem count_erase {ts : List (Str × Str)} {t : Str × Str} (h : t ∈ ts) (k : Str) : (((ts.eraseIdx (ts.idxOf t)).map (·.2)).count k : Int) = ((ts.map (·.2)).count k : Nat) - (if k = t.2 then 1 else 0) := by
  have e : ts.eraseIdx (ts.idxOf t) = ts.erase t := (List.erase_eq_eraseIdx_of_idxOf rfl).symm
  have p : ts.Perm (t :: ts.erase t) := List.perm_cons_erase h
  have c := (p.map (·.2)).count_eq k
  rw [e, c, List.map_cons, List.count_cons]
  by_cases hk : k = t.2
  · subst hk; simp
  · have h' : ¬ t.2 = k := fun e => hk e.symm
    simp [hk, h']
theorem len_erase {ts : List (Str × Str)} {t : Str × Str} (h : t ∈ ts) : (ts.eraseIdx (ts.idxOf t)).length + 1 = ts.length := by
  have e : ts.eraseIdx (ts.idxOf t) = ts.erase t := (List.erase_eq_eraseIdx_of_idxOf rfl).symm
  rw [e, List.length_erase_of_mem h]
  have := List.length_pos_of_mem h
  omega
theorem snocInd {α : Type} {M : List α → Prop} (h0 : M []) (h1 : ∀ l x, M l → M (l ++ [x])) (l : List α) : M l := by
  have : ∀ m : List α, M m.reverse := fun m => by
    induction m with
    | nil => exact h0
    | cons x m ih => rw [List.reverse_cons]; exact h1 _ _ ih
  have := this l.reverse
  rwa [List.reverse_reverse] at this
/-- the amounts there are what the deeds make of none -/
theorem cnt_do (l : List Row) : ∀ k, cntA (kAt l).things k = ((l.map Row.deed).foldl doA fun _ => 0) k := by
  refine snocInd (M := fun l => ∀ k, cntA (kAt l).things k = ((l.map Row.deed).foldl doA fun _ => 0) k) (fun k => rfl) (fun l r ih k => ?_) l
  rw [kAt_snoc, List.map_append, List.foldl_append]
  have fe : ((l.map Row.deed).foldl doA fun _ => 0) = cntA (kAt l).things := funext fun k => (ih k).symm
  rw [fe]
  cases r with
  | put n z =>
    show cntA ((kAt l).things ++ [(n, z)]) k = upA (cntA (kAt l).things) z (cntA (kAt l).things z + 1) k
    unfold upA
    rw [cntA_eq, cntA_eq, cntA_eq, List.map_append, List.count_append]
    by_cases h : k = z
    · subst h; simp
    · have h' : ¬ z = k := fun e => h e.symm
      simp [h, h']
  | call c =>
    show cntA (goneT (kAt l).things c) k = doA (cntA (kAt l).things) (.call c) k
    have ft := first_taken (kAt l).things (cntA (kAt l).things) (cntA_eq _) c
    generalize hts : (kAt l).things = ts at ft ⊢
    cases hf : firstOf ts c with
    | none =>
      rw [hf] at ft
      have g0 : goneT ts c = ts := by unfold goneT; rw [hf]
      have d0 : doA (cntA ts) (.call c) = cntA ts := by show (match takenK (cntA ts) c with | none => cntA ts | some k => upA (cntA ts) k (cntA ts k - 1)) = cntA ts; rw [ft]; rfl
      rw [g0, d0]
    | some t =>
      rw [hf] at ft
      have g0 : goneT ts c = ts.eraseIdx (ts.idxOf t) := by unfold goneT; rw [hf]
      have d0 : doA (cntA ts) (.call c) = upA (cntA ts) t.2 (cntA ts t.2 - 1) := by show (match takenK (cntA ts) c with | none => cntA ts | some k => upA (cntA ts) k (cntA ts k - 1)) = _; rw [ft]; rfl
      rw [g0, d0, cntA_eq, count_erase (firstOf_mem hf).1]
      unfold upA
      rw [cntA_eq, cntA_eq]
      by_cases h : k = t.2
      · subst h; simp
      · simp [h]
theorem dlook_iff {l : List (Dat × Dat)} {k : L2.Key} : (dlook l k).isSome = true ↔ ∃ p ∈ l, p.1 = kD k := by
  induction l with
  | nil => simp [dlook]
  | cons p l ih =>
    unfold dlook
    by_cases h : isK p.1 k = true
    · rw [if_pos h]
      simp only [Option.isSome_some, true_iff]
      exact ⟨p, List.mem_cons_self, isK_iff.mp h⟩
    · rw [if_neg h, ih]
      constructor
      · rintro ⟨q, hq, e⟩
        exact ⟨q, List.mem_cons_of_mem _ hq, e⟩
      · rintro ⟨q, hq, e⟩
        rcases List.mem_cons.mp hq with rfl | m
        · exact absurd (isK_iff.mpr e) h
        · exact ⟨q, m, e⟩
theorem tk_iff {l : List Row} {i : Nat} (hi : i < l.length) : (dlook (takenKV l) (.inl (i : Nat))).isSome = true ↔ ∃ c t, l[i]? = some (.call c) ∧ firstOf (kAt (l.take i)).things c = some t := by
  rw [dlook_iff]
  constructor
  · rintro ⟨p, hp, e⟩
    obtain ⟨q, hq, rfl⟩ := List.mem_map.mp hp
    obtain ⟨hq1, hq2⟩ := List.mem_filter.mp hq
    have e1 : ((q.1 : Nat) : Int) = (i : Nat) := by injection e
    have e2 : q.1 = i := by omega
    obtain ⟨_, ht⟩ := toldN_lt hq1
    rw [e2] at ht
    unfold toldOne at ht
    split at ht
    · rename_i c hc
      have e3 := Option.some.inj ht
      rw [← e3] at hq2
      obtain ⟨t, ht2⟩ := Option.isSome_iff_exists.mp hq2
      exact ⟨c, t, hc, ht2⟩
    · cases ht
  · rintro ⟨c, t, hc, ht⟩
    refine ⟨(.int (i : Nat), takenV l (some t)), List.mem_map.mpr ⟨(i, some t), List.mem_filter.mpr ⟨List.mem_filterMap.mpr ⟨i, List.mem_range.mpr hi, ?_⟩, rfl⟩, rfl⟩, rfl⟩
    unfold toldOne
    rw [hc, ← ht]
theorem served (l : List Row) : ∀ j, j ≤ l.length → svA l j + ((kAt (l.take j)).things.length : Nat) = putsN (l.take j)
  | 0, _ => rfl
  | j + 1, hj => by
    have hr : l[j]? = some l[j] := List.getElem?_eq_getElem (by omega)
    generalize l[j] = r at hr
    have ih := served l j (by omega)
    have e1 : l.take (j + 1) = l.take j ++ [r] := by rw [List.take_add_one, hr]; rfl
    rw [e1, kAt_snoc, putsN_snoc]
    show svA l j + tkI l j + _ = _
    cases r with
    | put n z =>
      have t0 : tkI l j = 0 := by
        unfold tkI
        rw [if_neg]
        intro h
        obtain ⟨c, t, hc, _⟩ := (tk_iff (by omega)).mp h
        rw [hr] at hc; cases hc
      rw [t0]
      show svA l j + 0 + (((kAt (l.take j)).things ++ [(n, z)]).length : Nat) = putsN (l.take j) + 1
      rw [List.length_append, List.length_singleton]
      omega
    | call c =>
      show svA l j + tkI l j + ((goneT (kAt (l.take j)).things c).length : Nat) = putsN (l.take j) + 0
      cases hf : firstOf (kAt (l.take j)).things c with
      | none =>
        have t0 : tkI l j = 0 := by
          unfold tkI
          rw [if_neg]
          intro h
          obtain ⟨c', t, hc, ht⟩ := (tk_iff (by omega)).mp h
          rw [hr] at hc; cases hc
          rw [hf] at ht; cases ht
        have g0 : goneT (kAt (l.take j)).things c = (kAt (l.take j)).things := by unfold goneT; rw [hf]
        rw [t0, g0]
        omega
      | some t =>
        have t1 : tkI l j = 1 := by
          unfold tkI
          rw [if_pos]
          exact (tk_iff (by omega)).mpr ⟨c, t, hr, hf⟩
        have g1 : goneT (kAt (l.take j)).things c = (kAt (l.take j)).things.eraseIdx ((kAt (l.take j)).things.idxOf t) := by unfold goneT; rw [hf]
        have := len_erase (firstOf_mem hf).1
        rw [t1, g1]
        omega
/-! stretches cut -/
def seg {α : Type} (l : List α) (a b : Nat) : List α := (l.drop a).take (b - a)
theorem seg_cat {α : Type} (l : List α) {a b : Nat} (h : a ≤ b) : l.take a ++ seg l a b = l.take b := by
  unfold seg
  rw [← List.take_add]
  congr 1
  omega
theorem seg_at {α : Type} {l : List α} {a b j : Nat} {x : α} (h : (seg l a b)[j]? = some x) : l[a + j]? = some x := by
  unfold seg at h
  rw [List.getElem?_take] at h
  split at h
  · rwa [List.getElem?_drop] at h
  · cases h
theorem seg_len {α : Type} {l : List α} {a b : Nat} (h : a ≤ b) (hb : b ≤ l.length) : (seg l a b).length = b - a := by
  unfold seg
  rw [List.length_take, List.length_drop]
  omega
theorem cutMid (xs : List Dat) {a b : Nat} (h : a ≤ b) (hb : b ≤ xs.length) : cutD xs (some (a : Int)) (some (b : Int)) = seg xs a b := by
  have e1 : HT.sIx xs.length 0 (some (a : Int)) = a := by
    unfold HT.sIx
    simp
    try split
    all_goals omega
  have e2 : HT.sIx xs.length xs.length (some (b : Int)) = b := by
    unfold HT.sIx
    simp
    try split
    all_goals omega
  unfold cutD seg
  rw [e1, e2]
theorem seg_map {α β : Type} (f : α → β) (l : List α) (a b : Nat) : seg (l.map f) a b = (seg l a b).map f := by
  unfold seg
  rw [List.map_take, List.map_drop]
/-- the stretches between the cuts -/
def cutAt (cs : List Nat) (k : Nat) : Nat := cs.getD k 0
def pcs (l : List Row) (cs : List Nat) : List (List Deed) := (List.range (cs.length - 1)).map fun k => (seg l (cutAt cs k) (cutAt cs (k + 1))).map Row.deed
theorem cutAt_at {cs : List Nat} {k : Nat} (h : k < cs.length) : cs[k]? = some (cutAt cs k) := by
  unfold cutAt
  rw [List.getD_eq_getElem?_getD, List.getElem?_eq_getElem h]; rfl
theorem cutAt_up {n : Nat} {cs : List Nat} (c : Cuts n cs) {k : Nat} (h : k + 1 < cs.length) : cutAt cs k < cutAt cs (k + 1) := by
  have e1 := cutAt_at (cs := cs) (k := k) (by omega)
  have e2 := cutAt_at h
  have f1 := (List.getElem?_eq_some_iff.mp e1).2
  have f2 := (List.getElem?_eq_some_iff.mp e2).2
  rw [← f1, ← f2]
  exact List.pairwise_iff_getElem.mp c.up k (k + 1) (by omega) h (by omega)
theorem cutAt_le {n : Nat} {cs : List Nat} (c : Cuts n cs) {k : Nat} (h : k < cs.length) : cutAt cs k ≤ n := c.le _ (List.mem_of_getElem? (cutAt_at h))
theorem cutAt_zero {n : Nat} {cs : List Nat} (c : Cuts n cs) : cutAt cs 0 = 0 := by
  cases cs with
  | nil => exact absurd c.zero List.not_mem_nil
  | cons a cs =>
    show a = 0
    rcases List.mem_cons.mp c.zero with e | m
    · exact e.symm
    · have := (List.pairwise_cons.mp c.up).1 0 m; omega
theorem cutAt_last {n : Nat} {cs : List Nat} (c : Cuts n cs) : cutAt cs (cs.length - 1) = n := by
  have pos := List.length_pos_of_mem c.last
  obtain ⟨j, hj⟩ := List.getElem?_of_mem c.last
  have lj : j < cs.length := (List.getElem?_eq_some_iff.mp hj).1
  by_cases e : j = cs.length - 1
  · rw [e, cutAt_at (by omega)] at hj
    exact Option.some.inj hj
  · have h1 := cutAt_at (cs := cs) (k := cs.length - 1) (by omega)
    have f1 := (List.getElem?_eq_some_iff.mp hj).2
    have f2 := (List.getElem?_eq_some_iff.mp h1).2
    have := List.pairwise_iff_getElem.mp c.up j (cs.length - 1) lj (by omega) (by omega)
    have := cutAt_le c (k := cs.length - 1) (by omega)
    omega
theorem pcs_take (l : List Row) {cs : List Nat} (c : Cuts l.length cs) : ∀ k, k ≤ cs.length - 1 → ((List.range k).map fun k => (seg l (cutAt cs k) (cutAt cs (k + 1))).map Row.deed).flatten = (l.take (cutAt cs k)).map Row.deed
  | 0, _ => by rw [cutAt_zero c]; rfl
  | k + 1, h => by
    rw [List.range_succ, List.map_append, List.flatten_append, pcs_take l c k (by omega)]
    have := cutAt_up c (k := k) (by omega)
    rw [← seg_cat l (Nat.le_of_lt this), List.map_append]
    simp
theorem pcs_all (l : List Row) {cs : List Nat} (c : Cuts l.length cs) : (pcs l cs).flatten = l.map Row.deed := by
  have := pcs_take l c (cs.length - 1) (Nat.le_refl _)
  rw [cutAt_last c, List.take_length] at this
  exact this
theorem pcs_at (l : List Row) (cs : List Nat) {k : Nat} (h : k < cs.length - 1) : (pcs l cs)[k]? = some ((seg l (cutAt cs k) (cutAt cs (k + 1))).map Row.deed) := by
  unfold pcs
  rw [List.getElem?_map, List.getElem?_range h]; rfl
end K94
end

/-! text XM -/
section
set_option Elab.async false
set_option autoImplicit false
set_option linter.all false
set_option maxRecDepth 100000
set_option maxHeartbeats 2000000
/-! what is shown is short; the house's law told -/
namespace K94
open PySem PySem.Spec PyProof.Rows L2
structure Shy (n wt : Nat) (d : Dat) : Prop where
  shows : d.py.showable = true
  deep : d.py.depth ≤ n
  short : d.py.leavesShort 13 = true
  light : d.py.weight ≤ wt
theorem Shy.mono {n wt n' wt' : Nat} {d : Dat} (h : Shy n wt d) (h1 : n ≤ n') (h2 : wt ≤ wt') : Shy n' wt' d := ⟨h.shows, Nat.le_trans h.deep h1, h.short, Nat.le_trans h.light h2⟩
theorem Shy.nice {n wt : Nat} {d : Dat} (h : Shy n wt d) (hn : n ≤ 20) (hw : wt ≤ 2 ^ 20) (r : refD d = true) : Nice d := ⟨r, h.shows, Nat.le_trans h.deep hn, PyData.shown_fits (B := 13) (by decide) (by decide) h.short (Nat.le_trans h.light hw)⟩
theorem shyAll {n wt : Nat} : ∀ {ds : List Dat}, (∀ d ∈ ds, Shy n wt d) → PyData.showableAll (pyAll ds) = true ∧ PyData.depthAll (pyAll ds) ≤ n ∧ PyData.leavesShortAll 13 (pyAll ds) = true ∧ PyData.weightAll (pyAll ds) ≤ ds.length * (wt + 1)
  | [], _ => ⟨rfl, Nat.zero_le _, rfl, Nat.zero_le _⟩
  | d :: ds, h => by
    obtain ⟨h1, h2, h3, h4⟩ := shyAll (ds := ds) fun e he => h e (List.mem_cons_of_mem _ he)
    have hd := h d List.mem_cons_self
    refine ⟨?_, ?_, ?_, ?_⟩
    · show (d.py.showable && PyData.showableAll (pyAll ds)) = true
      rw [hd.shows, h1]; rfl
    · show max d.py.depth (PyData.depthAll (pyAll ds)) ≤ n
      exact Nat.max_le.mpr ⟨hd.deep, h2⟩
    · show (d.py.leavesShort 13 && PyData.leavesShortAll 13 (pyAll ds)) = true
      rw [hd.short, h3]; rfl
    · show d.py.weight + 1 + PyData.weightAll (pyAll ds) ≤ (ds.length + 1) * (wt + 1)
      have := hd.light
      rw [Nat.add_mul]
      omega
theorem shyKv {n wt : Nat} : ∀ {ds : List (Dat × Dat)}, (∀ p ∈ ds, Shy n wt p.1 ∧ Shy n wt p.2) → PyData.showableKv (pyPairs ds) = true ∧ PyData.depthKv (pyPairs ds) ≤ n ∧ PyData.leavesShortKv 13 (pyPairs ds) = true ∧ PyData.weightKv (pyPairs ds) ≤ ds.length * (wt + wt + 2)
  | [], _ => ⟨rfl, Nat.zero_le _, rfl, Nat.zero_le _⟩
  | (a, b) :: ds, h => by
    obtain ⟨h1, h2, h3, h4⟩ := shyKv (ds := ds) fun e he => h e (List.mem_cons_of_mem _ he)
    have hd := h (a, b) List.mem_cons_self
    refine ⟨?_, ?_, ?_, ?_⟩
    · show (a.py.showable && b.py.showable && PyData.showableKv (pyPairs ds)) = true
      rw [hd.1.shows, hd.2.shows, h1]; rfl
    · show max (max a.py.depth b.py.depth) (PyData.depthKv (pyPairs ds)) ≤ n
      exact Nat.max_le.mpr ⟨Nat.max_le.mpr ⟨hd.1.deep, hd.2.deep⟩, h2⟩
    · show (a.py.leavesShort 13 && b.py.leavesShort 13 && PyData.leavesShortKv 13 (pyPairs ds)) = true
      rw [hd.1.short, hd.2.short, h3]; rfl
    · show a.py.weight + b.py.weight + 2 + PyData.weightKv (pyPairs ds) ≤ (ds.length + 1) * (wt + wt + 2)
      have h1 : a.py.weight ≤ wt := hd.1.light
      have h2 : b.py.weight ≤ wt := hd.2.light
      rw [Nat.add_mul]
      omega
theorem shyList {n wt m : Nat} {ds : List Dat} (h : ∀ d ∈ ds, Shy n wt d) (hl : ds.length ≤ m) : Shy (n + 1) (m * (wt + 1)) (.list ds) := by
  obtain ⟨h1, h2, h3, h4⟩ := shyAll h
  exact ⟨h1, Nat.succ_le_succ h2, h3, Nat.le_trans h4 (Nat.mul_le_mul_right _ hl)⟩
theorem shyTup {n wt m : Nat} {ds : List Dat} (h : ∀ d ∈ ds, Shy n wt d) (hl : ds.length ≤ m) : Shy (n + 1) (m * (wt + 1)) (.tuple ds) := by
  obtain ⟨h1, h2, h3, h4⟩ := shyAll h
  exact ⟨h1, Nat.succ_le_succ h2, h3, Nat.le_trans h4 (Nat.mul_le_mul_right _ hl)⟩
theorem shyDict {n wt m : Nat} {ds : List (Dat × Dat)} (h : ∀ p ∈ ds, Shy n wt p.1 ∧ Shy n wt p.2) (hl : ds.length ≤ m) : Shy (n + 1) (m * (wt + wt + 2)) (.dict ds) := by
  obtain ⟨h1, h2, h3, h4⟩ := shyKv h
  exact ⟨h1, Nat.succ_le_succ h2, h3, Nat.le_trans h4 (Nat.mul_le_mul_right _ hl)⟩
theorem shyInt {i : Int} (h : i.natAbs ≤ 2000) : Shy 0 12 (.int i) := by
  have lg : i.natAbs.log2 < 11 ∨ i.natAbs = 0 := by
    by_cases h0 : i.natAbs = 0
    · exact .inr h0
    · exact .inl ((Nat.log2_lt h0).mpr (by omega))
  refine ⟨decide_eq_true ?_, Nat.le_refl _, decide_eq_true (PyData.shown_int_le (by omega)), ?_⟩
  · rcases lg with h | h
    · omega
    · rw [h]; decide
  · show (if i == 0 then 0 else i.natAbs.log2 + 1) ≤ 12
    split
    · omega
    · rcases lg with h | h
      · omega
      · rw [h]; decide
theorem NameOk.shy {z : Str} (h : NameOk z) : Shy 0 6 (.str z) := by
  refine ⟨rfl, Nat.le_refl _, ?_, h.2.1⟩
  show (z.cps.toList.all fun c => decide (c < 16 ^ 8)) = true
  refine List.all_eq_true.mpr fun c hc => decide_eq_true ?_
  have := abcSmall c (h.2.2 c hc)
  omega
section
variable {h : Hs} (ok : HouseOk h)
theorem shyPart (ok : HouseOk h) {p : List Str} (hp : p ∈ bsets h) : Shy 1 42 (tS p) := by
  have l6 := bsets_each ok.small hp
  exact shyTup (n := 0) (wt := 6) (m := 6) (fun d hd => by
    obtain ⟨k, hk, rfl⟩ := List.mem_map.mp hd
    exact (ok.nm k (bsets_in hp hk)).shy) (by rw [List.length_map]; exact l6)
theorem shyBrief (ok : HouseOk h) {M : List Str → List Str → Int} (hM : ∀ p q, (M p q).natAbs ≤ 2000) : Shy 3 705000 (brfD h M) := by
  have lb := bsets_len ok.small
  refine Shy.mono (shyDict (n := 2) (wt := 5504) (m := 64) (fun e he => ?_) (by rw [List.length_map]; exact lb)) (by decide) (by decide)
  obtain ⟨p, hp, rfl⟩ := List.mem_map.mp he
  refine ⟨(shyPart ok hp).mono (by decide) (by decide), ?_⟩
  refine Shy.mono (shyDict (n := 1) (wt := 42) (m := 64) (fun e he => ?_) (by rw [List.length_map]; exact inn_len ok.small p)) (by decide) (by decide)
  obtain ⟨q, hq, rfl⟩ := List.mem_map.mp he
  exact ⟨shyPart ok (inn_b hq), (shyInt (hM p q)).mono (by decide) (by decide)⟩
theorem shyDue (ok : HouseOk h) {am : Str → Int} (ha : ∀ k, (am k).natAbs ≤ 2000) : Shy 1 200 (mD (sS h.ks) am) := by
  refine Shy.mono (shyDict (n := 0) (wt := 12) (m := 6) (fun e he => ?_) (by rw [List.length_map, (sS_perm _).length_eq]; exact ok.k6)) (by decide) (by decide)
  obtain ⟨k, hk, rfl⟩ := List.mem_map.mp he
  exact ⟨(ok.nm k ((sS_perm _).mem_iff.mp hk)).shy.mono (by decide) (by decide), shyInt (ha k)⟩
theorem niceBrief (ok : HouseOk h) {M : List Str → List Str → Int} (hM : ∀ p q, (M p q).natAbs ≤ 2000) : Nice (brfD h M) := (shyBrief ok hM).nice (by decide) (by decide) rfl
theorem niceDues (ok : HouseOk h) {am : Str → Int} (ha : ∀ k, (am k).natAbs ≤ 2000) {n : Nat} (hn : n ≤ 10) : Nice (.list (List.replicate n (mD (sS h.ks) am))) :=
  (shyList (n := 1) (wt := 200) (m := 10) (fun d hd => by rw [List.eq_of_mem_replicate hd]; exact shyDue ok ha) (by rw [List.length_replicate]; exact hn)).nice (by decide) (by decide) rfl
end
theorem led_bound {h : Hs} {n : Nat} {M : List Str → List Str → Int} (hM : ∀ p q, (M p q).natAbs ≤ n) (D : Deed) : ∀ p q, (led h M D p q).natAbs ≤ n + 1 := fun p q => by
  cases D with
  | put k =>
    show (M p q + (if decide (k ∈ p) = true then 1 else 0)).natAbs ≤ n + 1
    have := hM p q
    split <;> omega
  | call c =>
    show (max (M p q - lessN p (dropC p c)) (if q ∈ inn h (dropC p c) then M (dropC p c) q else M p q - lessN p (dropC p c))).natAbs ≤ n + 1
    have l01 : lessN p (dropC p c) = 0 ∨ lessN p (dropC p c) = 1 := by
      unfold lessN
      split
      · exact .inr rfl
      · exact .inl rfl
    have h1 := hM p q
    have h2 := hM (dropC p c) q
    split <;> rcases l01 with e | e <;> rw [e] <;> omega
theorem ledAll_bound (h : Hs) (st : List Deed) : ∀ p q, (ledAll h st p q).natAbs ≤ st.length := by
  have : ∀ (st : List Deed) (n : Nat) (M : List Str → List Str → Int), (∀ p q, (M p q).natAbs ≤ n) → ∀ p q, (st.foldl (led h) M p q).natAbs ≤ n + st.length := by
    intro st
    induction st with
    | nil => exact fun n M hM => hM
    | cons D st ih =>
      intro n M hM p q
      have := ih (n + 1) (led h M D) (led_bound hM D) p q
      show (st.foldl (led h) (led h M D) p q).natAbs ≤ n + (st.length + 1)
      omega
  intro p q
  have := this st 0 zeroM (fun _ _ => Nat.le_refl _) p q
  show (st.foldl (led h) zeroM p q).natAbs ≤ st.length
  omega
theorem doA_bound {n : Nat} {am : Str → Int} (ha : ∀ k, (am k).natAbs ≤ n) (D : Deed) : ∀ k, (doA am D k).natAbs ≤ n + 1 := fun k => by
  have h0 := ha k
  cases D with
  | put z =>
    show (upA am z (am z + 1) k).natAbs ≤ n + 1
    unfold upA
    have := ha z
    split <;> omega
  | call c =>
    show ((match takenK am c with | none => am | some k => upA am k (am k - 1)) k).natAbs ≤ n + 1
    cases takenK am c with
    | none => show (am k).natAbs ≤ n + 1; omega
    | some z =>
      show (upA am z (am z - 1) k).natAbs ≤ n + 1
      unfold upA
      have := ha z
      split <;> omega
theorem doAll_bound : ∀ (st : List Deed) (n : Nat) (am : Str → Int), (∀ k, (am k).natAbs ≤ n) → ∀ k, (st.foldl doA am k).natAbs ≤ n + st.length
  | [], n, am, h => h
  | D :: st, n, am, h => fun k => by
    have := doAll_bound st (n + 1) (doA am D) (doA_bound h D) k
    show (st.foldl doA (doA am D) k).natAbs ≤ n + (st.length + 1)
    omega
/-- sorted texts of one set are one list -/
theorem sS_pw (ks : List Str) : (sS ks).Pairwise fun a b => PySem.W.dataLt (.str b) (.str a) = false := by
  have := PySem.W.sort_pairwise (PySem.W.sortLe_total (listOrd itemOrd) false fun a : Str => PySem.W.keyToks (.str a)) ks
  refine List.Pairwise.imp (fun {a b} h => ?_) this
  have h' : (!PySem.W.dataLt (.str b) (.str a)) = true := h
  simpa using h'
theorem sortedEq : ∀ {l m : List Str}, l.Perm m → (l.Pairwise fun a b => PySem.W.dataLt (.str b) (.str a) = false) → (m.Pairwise fun a b => PySem.W.dataLt (.str b) (.str a) = false) → l = m
  | [], m, p, _, _ => by rw [List.nil_perm.mp p]
  | a :: l, [], p, _, _ => by
    have := p.length_eq
    simp at this
  | a :: l, b :: m, p, h1, h2 => by
    obtain ⟨a1, a2⟩ := List.pairwise_cons.mp h1
    obtain ⟨b1, b2⟩ := List.pairwise_cons.mp h2
    have e : a = b := by
      have ha : a ∈ b :: m := p.mem_iff.mp List.mem_cons_self
      have hb : b ∈ a :: l := p.mem_iff.mpr List.mem_cons_self
      rcases List.mem_cons.mp ha with e | ha
      · exact e
      · rcases List.mem_cons.mp hb with e | hb
        · exact e.symm
        · exact ltTotalS (b1 a ha) (a1 b hb)
    subst e
    rw [sortedEq (List.Perm.cons_inv p) a2 b2]
theorem sS_perm_eq {ks ks' : List Str} (p : ks.Perm ks') : sS ks = sS ks' := sortedEq (((sS_perm ks).trans p).trans (sS_perm ks').symm) (sS_pw ks) (sS_pw ks')
theorem eqvSt : ∀ st : List Deed, PyData.eqvAll (pyAll (st.map Deed.dat)) (pyAll (st.map Deed.dat)) = true
  | [] => rfl
  | .put k :: st => by
    show (((("put" : Str) == "put") && ((k == k) && true)) && PyData.eqvAll (pyAll (st.map Deed.dat)) (pyAll (st.map Deed.dat))) = true
    rw [eqvSt st]; simp
  | .call c :: st => by
    show (((("call" : Str) == "call") && (PyData.eqvAll (pyAll (dS c)) (pyAll (dS c)) && true)) && PyData.eqvAll (pyAll (st.map Deed.dat)) (pyAll (st.map Deed.dat))) = true
    rw [eqvSt st, eqvS]; simp
theorem laySt {h : Hs} (ok : HouseOk h) : ∀ {st : List Deed}, (∀ D ∈ st, DeedOk h D) → PyData.canLayAll0 (pyAll (st.map Deed.dat)) = true
  | [], _ => rfl
  | .put k :: st, hs => by
    have hk : k ∈ h.ks := hs _ List.mem_cons_self
    show ((PyData.strOk "put" && (PyData.strOk k && true)) && PyData.canLayAll0 (pyAll (st.map Deed.dat))) = true
    rw [laySt ok fun D hD => hs D (List.mem_cons_of_mem _ hD), (ok.nm k hk).str]
    have : PyData.strOk "put" = true := by decide +kernel
    rw [this]; rfl
  | .call c :: st, hs => by
    have hc : c ∈ h.cs := hs _ List.mem_cons_self
    show ((PyData.strOk "call" && (PyData.canLayAll0 (pyAll (dS c)) && true)) && PyData.canLayAll0 (pyAll (st.map Deed.dat))) = true
    rw [laySt ok fun D hD => hs D (List.mem_cons_of_mem _ hD), layS (ok.str hc)]
    have : PyData.strOk "call" = true := by decide +kernel
    rw [this]; rfl
theorem depthAllLe {n : Nat} : ∀ {ds : List Dat}, (∀ d ∈ ds, d.py.depth ≤ n) → PyData.depthAll (pyAll ds) ≤ n
  | [], _ => Nat.zero_le _
  | d :: ds, h => Nat.max_le.mpr ⟨h d List.mem_cons_self, depthAllLe fun e he => h e (List.mem_cons_of_mem _ he)⟩
theorem shapedSt {h : Hs} (ok : HouseOk h) {st : List Deed} (hs : ∀ D ∈ st, DeedOk h D) : SeqAt.shaped (stD st).py = true := by
  refine Bool.and_eq_true_iff.mpr ⟨laySt ok hs, decide_eq_true ?_⟩
  show PyData.depthAll (pyAll (st.map Deed.dat)) + 1 ≤ 64
  have := depthAllLe (n := 2) (ds := st.map Deed.dat) fun d hd => by
    obtain ⟨D, _, rfl⟩ := List.mem_map.mp hd
    exact deedDepth D
  omega
theorem countS (k : Str) : ∀ ks : List Str, ((pyAll (dS ks)).countP fun y => PyData.eqv y (Dat.str k).py) = ks.count k
  | [] => rfl
  | z :: ks => by
    show (PyData.str z :: pyAll (dS ks)).countP (fun y => PyData.eqv y (PyData.str k)) = _
    rw [List.countP_cons, List.count_cons]
    have ih := countS k ks
    have ih' : (pyAll (dS ks)).countP (fun y => PyData.eqv y (PyData.str k)) = ks.count k := ih
    rw [ih']
    rfl
/-- the law of a nested house -/
structure HLaw (h : Hs) : Prop where
  calls : CallsOk h
  join : JoinOk h
  acts : ∃ lb, LbOk h lb ∧ ∀ (st : List Deed) (am : Str → Int), (∀ D ∈ st, DeedOk h D) → (∀ k, 0 ≤ am k) → ∀ k ∈ h.ks, actC h (ledAll h st) am (lb k) - actC h (ledAll h st) am (lessK (lb k) k) = st.foldl doA am k
end K94
end

/-! text XO -/
section
set_option Elab.async false
set_option autoImplicit false
set_option linter.all false
set_option maxRecDepth 100000
set_option maxHeartbeats 1000000
/-! the law: kept right -/
namespace K94
open PySem PySem.Spec PyProof.Rows L2
theorem keptAllTh (ts : List (Str × Str)) : keptD (fun _ => true) (fun d => .str (unTh d).2) (ts.map thD) = dS (ts.map (·.2)) := by
  rw [keptAll, List.map_map]
  show _ = (ts.map (·.2)).map Dat.str
  rw [List.map_map]; rfl
theorem cntAll (ts : List (Str × Str)) : (fun k : Str => (((ts.map (·.2)).count k : Nat) : Int)) = cntA ts := funext fun k => (cntA_eq ts k).symm
theorem plainS : ∀ ks : List Str, PyData.plainAll (pyAll (dS ks)) = true
  | [] => rfl
  | z :: ks => by
    show (true && PyData.plainAll (pyAll (dS ks))) = true
    rw [plainS ks]; rfl
def unDeed (d : Dat) : Deed := match d with
  | .tuple [_, .str k] => .put k
  | .tuple [_, .ftup ds] => .call (ds.map sOf)
  | _ => .put default
def unSt (d : Dat) : List Deed := match d with
  | .tuple ds => ds.map unDeed
  | _ => []
theorem unSt_st (s : List Deed) : unSt (stD s) = s := by
  show (s.map Deed.dat).map unDeed = s
  rw [List.map_map]
  have : ∀ D : Deed, (unDeed ∘ Deed.dat) D = D := fun D => by
    cases D with
    | put k => rfl
    | call c =>
      show Deed.call ((dS c).map sOf) = _
      rw [List.map_map]
      have : (sOf ∘ Dat.str) = id := rfl
      rw [this, List.map_id]
  rw [List.map_congr_left fun D _ => this D, List.map_id']
def krI (C a st dx ra ta na : Addr) (h : Hs) (l : List Row) (cs : List Nat) (ks : List Str) (am : Str → Int) (k : Nat) (δ' : List Cell) : Prop := ∃ (B' : Bag) (x7 x10 x15 x16 x17 x18 x19 x20 x21 : Cell), δ' = [.ow a (bgO B'), .im h.dat, .im (lgD l), .im (.list (cs.map nI)), .ow st (kO C dx ra ta na h (kAt (l.take (cutAt cs k)))), .im (.int (putsN (l.take (cutAt cs k)))), .im (.list ((pcs l cs).map stD)), x7, .im (.list ((pcs l cs).map fun s => brfD h (ledAll h s))), .im (stD (l.map Row.deed)), x10, .im (.list (stsL l l.length)), .im (.dict (toldKV l l.length)), .im (brfD h (ledAll h ((l.take (cutAt cs k)).map Row.deed))), .im (mD ks am), x15, x16, x17, x18, x19, x20, x21]
section
variable {P : Program} {w : World} {K : PySem.W.Frag} {mg : Str → Option Value} {base : Heap} {k : Nat} {C : Addr}
/-! ### _law_kept_right -/
def rKr : Ow → List Dat → (Dat → Ow → Prop) → Prop := fun o ds Φ => ∃ (B : Bag) (h : Hs) (l : List Row), HouseOk h ∧ Nest h ∧ HLaw h ∧ LogOk h l ∧ l.length ≤ 200 ∧ o = bgO B ∧ ds = [h.dat, lgD l] ∧ ∀ B' : Bag, Φ (.bool true) (bgO B')
def nKr : List Str := ["_law_bag_here", "_law_house", "_law_log", "_law_cuts", "_law_store", "_law_many", "_law_pieces", "_law_k", "_law_briefs", "_law_whole", "_law_piece", "_law_states", "_law_told", "_law_now", "_law_ahead", "_law_row", "_law_there", "_law_thing", "_law_due", "_law_kind", "_law_found", "_law_done"]
theorem scKr : FnScope nKr ["_law_bag_here", "_law_house", "_law_log"] (defScope (top 84)) := ⟨rfl, rfl, rfl, by decide +kernel, rfl, by decide +kernel, by decide +kernel⟩
theorem LogOk.deeds {h : Hs} {l : List Row} (lo : LogOk h l) : ∀ D ∈ l.map Row.deed, DeedOk h D := fun D hD => by
  obtain ⟨r, hr, rfl⟩ := List.mem_map.mp hD
  have := lo.1 r hr
  cases r with
  | put n k => exact this.1
  | call c => exact this
theorem DeedOk.in {h : Hs} (ok : HouseOk h) : ∀ {D : Deed}, DeedOk h D → DeedIn h.ks D
  | .put _, hd => hd
  | .call c, hd => ⟨ok.sub hd, ok.small.c c hd⟩
theorem okKr (B : Bs K mg) (c : Cl P w K mg base C) (F : Stands K mg "_law_kept_right" (top 84))
    (cu : Has P w K mg base 2 "_law_cut" (BorSp K rCu)) (so : Has P w K mg base 1 "stretch_of" (PurSp K rSt)) (br : Has P w K mg base 6 "brief_of" (PurSp K rBr)) (pl : Has P w K mg base 2 "_law_played" (PurSp K rPl)) (al : Has P w K mg base 1 "_law_alike" (PurSp K rAl)) (pt : Has P w K mg base 7 "_law_put_together" (BorSp K rPt)) (lg : Has P w K mg base 2 "log_of" (PurSp K rLg)) (la : Has P w K mg base 3 "_law_amounts" (BorSp K rLa)) (jo : Has P w K mg base 6 "joined" (PurSp K rJ)) (ab : Has P w K mg base 6 "acted_by" (PurSp K rAb)) (na_ : Has P w K mg base 1 "no_amounts" (PurSp K rNa)) (aa : Has P w K mg base 8 "amounts_at" (PurSp K rAa)) (sv : Has P w K mg base 9 "served_at" (PurSp K rSv)) (ac : Has P w K mg base 3 "acted" (PurSp K rAct)) (wk : Has P w K mg base 2 "_law_walked" (PurSp K rWk))
    (sp : HasM P w K mg base 2 C "put" (BorSp K (rSp C))) (sk : HasM P w K mg base 5 C "take" (BorSp K (rSk C))) (sa : HasM P w K mg base 1 C "amounts" (BorSp K (rSa C))) : Has P w K mg base 10 "_law_kept_right" (BorSp K rKr) := by
  refine Has.bor F B scKr (fun _ _ _ _ _ _ us hl => match us, hl with | [_, _, _], _ => rfl) (fun o ds d ⟨_, _, _, _, _, _, _, _, _, e, _⟩ => by rw [e]; rfl) fun a o ds Φ ⟨G, h, l, ok, hn, hw, lo, ll, ho, hds, hΦ⟩ f cdv A outer s H g hr => ?_
  subst ho hds
  have nd := scKr.nd
  have t1000 : (1000 : Nat) ≤ sizeLine := by decide
  have sm := ok.small
  have nk := ok.nd
  have deeds := lo.deeds
  obtain ⟨f1, fd1, M, FI, hb⟩ := c.made
  have bigB : ∀ st : List Deed, st.length ≤ 200 → ∀ p q, (ledAll h st p q).natAbs ≤ 2000 := fun st hl p q => Nat.le_trans (ledAll_bound h st p q) (by omega)
  refine Run.cons (RunS.par3C (i := 3) (j := 4) (l := 5) (EvI.ev (Ψ := fun d δ' => ∃ (cs : List Nat) (B1 : Bag), Cuts l.length cs ∧ d = .list (cs.map nI) ∧ δ' = [.ow a (bgO B1), .im h.dat, .im (lgD l), .no, .no, .no, .no, .no, .no, .no, .no, .no, .no, .no, .no, .no, .no, .no, .no, .no, .no, .no]) (EvI.ownB (i := 0) (q := a) g cu (hr.mono (by decide)) ⟨_, rfl⟩ (EvAP.ea (.cons (.var (i := 2) rfl) .nil) ⟨_, fun d o' => ∃ (cs : List Nat) (B1 : Bag), Cuts l.length cs ∧ d = .list (cs.map nI) ∧ o' = bgO B1, rfl, ⟨G, l, by omega, rfl, rfl, fun cs B1 hc => ⟨cs, B1, hc, rfl, rfl⟩⟩, fun d o' ⟨cs, B1, hc, e1, e2⟩ _ => ⟨cs, B1, hc, e1, by rw [e2]; rfl⟩⟩)) fun d δ' ⟨cs, B1, hc, e1, e2⟩ => ?_) rfl nd)
  subst e1 e2
  refine Ev.make g M FI hb (hr.mono (by decide)) c.at_ (.var (i := 1) rfl) ⟨h, ok, rfl⟩ fun st dx ra ta na => EvP.ev .int ?_
  have lc1 : 1 ≤ cs.length := List.length_pos_of_mem hc.zero
  have few := hc.few
  have ixC : ∀ k, k < cs.length → atI (cs.map nI) ((k : Nat) : Int) = some (nI (cutAt cs k)) := fun k hk => atIn (by rw [List.getElem?_map, cutAt_at hk]; rfl)
  have lenR : ∀ n : Nat, (lgD l = .tuple (l.map Row.dat)) := fun _ => rfl
  have slice : ∀ a b : Nat, a ≤ b → b ≤ l.length → cutD (l.map Row.dat) (some ((a : Nat) : Int)) (some ((b : Nat) : Int)) = (seg l a b).map Row.dat := fun a b h1 h2 => by rw [cutMid _ h1 (by rw [List.length_map]; exact h2), seg_map]
  refine Run.cons (RunS.setComp (i := 6) (own := [("_law_k", 7)]) (ds := rangeD 0 (cs.length - 1)) (b := fun _ => true) (r := fun d => stD ((seg l (cutAt cs (iOf d).toNat) (cutAt cs ((iOf d).toNat + 1))).map Row.deed)) (f := fun d => [.ow a (bgO B1), .im h.dat, .im (lgD l), .im (.list (cs.map nI)), .ow st (kO C dx ra ta na h k0), .im (.int 0), .no, .im d, .no, .no, .no, .no, .no, .no, .no, .no, .no, .no, .no, .no, .no, .no]) rfl nd (blkOk_by (N := nKr) (sc := defScope (top 84)) (by decide +kernel)) (EvItP.range1 (n := cs.length - 1) (EvP.cast (EvP.bin (EvP.callB (fid := "len") (.cons (.var (i := 3) rfl) .nil) CallD.lenL (B.free _ (by decide))) .int Op2.sub) (by rw [List.length_map]; exact congrArg Dat.int (by omega))) (by omega) (B.free _ (by decide))) (fun d hd s H C cl fp => AsDV.name (i := 7) nd) (fun d hd s H C cl fp => ?_) (fun d hd _ s H C cl fp => ?_) (by rw [rangeD_length]; omega) ?_)
  · rfl
  · rw [rangeN] at hd
    obtain ⟨k, hk, rfl⟩ := List.mem_map.mp hd
    have hk := List.mem_range.mp hk
    have up := cutAt_up hc (k := k) (by omega)
    have le := cutAt_le hc (k := k + 1) (by omega)
    refine EvP.own g.blk so (hr.mono (by decide)) (.cons (EvP.cast (EvP.slice (l := some ((cutAt cs k : Nat) : Int)) (u := some ((cutAt cs (k + 1) : Nat) : Int)) (.var (i := 2) rfl) (EvOP.some_ (EvP.ix (.var (i := 3) rfl) (.var (i := 7) rfl) (Ix2.lst (ixC k (by omega))))) (EvOP.some_ (EvP.ix (.var (i := 3) rfl) (EvP.bin (.var (i := 7) rfl) .int Op2.add) (Ix2.lst (ixC (k + 1) (by omega))))) Sl2.tup) (congrArg Dat.tuple (slice _ _ (Nat.le_of_lt up) le))) .nil) ⟨seg l (cutAt cs k) (cutAt cs (k + 1)), by rw [seg_len (Nat.le_of_lt up) le]; omega, rfl, rfl⟩
  · have e0 : keptD (fun _ => true) (fun d => stD ((seg l (cutAt cs (iOf d).toNat) (cutAt cs ((iOf d).toNat + 1))).map Row.deed)) (rangeD 0 (cs.length - 1)) = (pcs l cs).map stD := by
      rw [keptAll, rangeN, List.map_map]
      unfold pcs
      rw [List.map_map]; rfl
    rw [e0]
    have pok : ∀ p ∈ pcs l cs, (∀ D ∈ p, DeedOk h D) ∧ p.length ≤ 200 := fun p hp => by
      obtain ⟨k, hk, rfl⟩ := List.mem_map.mp hp
      refine ⟨fun D hD => ?_, ?_⟩
      · obtain ⟨r, hr2, rfl⟩ := List.mem_map.mp hD
        exact deeds _ (List.mem_map.mpr ⟨r, List.mem_of_mem_drop (List.mem_of_mem_take hr2), rfl⟩)
      · rw [List.length_map]
        unfold seg
        rw [List.length_take, List.length_drop]; omega
    have lpc : (pcs l cs).length = cs.length - 1 := by unfold pcs; rw [List.length_map, List.length_range]
    have ldd : (l.map Row.deed).length ≤ 200 := by rw [List.length_map]; exact ll
    refine Run.cons (RunS.par2 (i := 8) (j := 9) (EvP.ev (d := .list ((pcs l cs).map fun s => brfD h (ledAll h s))) (EvP.cast (EvP.comp (own := [("_law_piece", 10)]) (ds := (pcs l cs).map stD) (b := fun _ => true) (r := fun d => brfD h (ledAll h (unSt d))) (f := fun d => [.ow a (bgO B1), .im h.dat, .im (lgD l), .im (.list (cs.map nI)), .ow st (kO C dx ra ta na h k0), .im (.int 0), .im (.list ((pcs l cs).map stD)), .no, .no, .no, .im d, .no, .no, .no, .no, .no, .no, .no, .no, .no, .no, .no]) rfl nd (blkOk_by (N := nKr) (sc := defScope (top 84)) (by decide +kernel)) (EvItP.list (.var (i := 6) rfl)) (fun d hd s H C cl fp => AsDV.name (i := 10) nd) (fun d hd s H C cl fp => ?_) (fun d hd _ s H C cl fp => ?_) (by rw [List.length_map]; omega)) ?_) (EvP.ev (d := stD (l.map Row.deed)) (EvP.own g so (hr.mono (by decide)) (.cons (.var (i := 2) rfl) .nil) ⟨l, by omega, rfl, rfl⟩) ?_)) rfl nd)
    · rfl
    · obtain ⟨p, hp, rfl⟩ := List.mem_map.mp hd
      rw [unSt_st]
      exact EvP.own g.blk br (hr.mono (by decide)) (.cons (.var (i := 1) rfl) (.cons (.var (i := 10) rfl) .nil)) ⟨h, p, sm, nk, hn, hw.calls, (pok p hp).1, rfl, rfl⟩
    · rw [keptAll, List.map_map]
      exact congrArg Dat.list (List.map_congr_left fun s _ => by show brfD h (ledAll h (unSt (stD s))) = _; rw [unSt_st])
    refine Run.cons (RunS.asg (EvP.i (EvP.own g pl (hr.mono (by decide)) (.cons (.var (i := 1) rfl) (.cons (.var (i := 2) rfl) .nil)) ⟨h, l, ok, lo, by omega, rfl, rfl⟩) ⟨_, AsD.pair (i := 11) (j := 12) (d1 := .list (stsL l l.length)) (d2 := .dict (toldKV l l.length)) rfl nd, ?_⟩))
    have brW : ∀ {X : Cx} (g : Gx X) (δ : List Cell), True := fun _ _ => trivial
    have flat : pcs l cs ≠ [] → (pcs l cs).flatten = l.map Row.deed := fun _ => pcs_all l hc
    have nice1 : Nice (brfD h (ledAll h (l.map Row.deed))) := niceBrief ok (bigB _ ldd)
    refine Run.cons (RunS.if_ (EvW.t (EvW.and (EvTP.t (c := !((pcs l cs).map fun s => brfD h (ledAll h s)).isEmpty) (EvTP.cmp (.var (i := 8) rfl) (.lst .nil) (Cmp2.neNil g)) ?_))))
    have rest1 : ∀ B2 : Bag, Run (CxD P w K mg base nKr "_law_kept_right" (top 84) f cdv A outer s H) [.ow a (bgO B2), .im h.dat, .im (lgD l), .im (.list (cs.map nI)), .ow st (kO C dx ra ta na h k0), .im (.int 0), .im (.list ((pcs l cs).map stD)), .no, .im (.list ((pcs l cs).map fun s => brfD h (ledAll h s))), .im (stD (l.map Row.deed)), .no, .im (.list (stsL l l.length)), .im (.dict (toldKV l l.length)), .no, .no, .no, .no, .no, .no, .no, .no, .no] ((defBody (top 84)).drop 5) (BorOut a (bgO G) Φ) := fun B2 => by
      have dlen : (l.map Row.deed).length = l.length := List.length_map _
      have ne1 : (!PyData.eqv (stD (l.map Row.deed)).py (stD (l.map Row.deed)).py) = false := by
        show (!PyData.eqvAll (pyAll ((l.map Row.deed).map Deed.dat)) (pyAll ((l.map Row.deed).map Deed.dat))) = false
        rw [eqvSt]; rfl
      refine Run.cons (RunS.if_ (EvTP.t (c := false) (EvWP.t (EvWP.or (c := false) (k := false) ?_ fun _ => EvWP.or1 ?_)) ?_))
      · rw [← ne1]
        exact EvTP.cmp (EvP.own g so (hr.mono (by decide)) (.cons (EvP.own g lg (hr.mono (by decide)) (.cons (.var (i := 9) rfl) .nil) ⟨l.map Row.deed, by omega, rfl, rfl⟩) .nil) ⟨logOf (l.map Row.deed), by rw [logOf_len]; omega, rfl, by rw [logOf_deed]⟩) (.var (i := 9) rfl) (Cmp2.neD g (shapedSt ok deeds) (shapedSt ok deeds))
      · exact EvTP.not (c := true) (EvTP.val (EvP.own g al (hr.mono (by decide)) (.cons (d := brfD h (ledAll h (l.map Row.deed))) (EvP.own g br (hr.mono (by decide)) (.cons (.var (i := 1) rfl) (.cons (d := stD (l.map Row.deed)) (EvP.own g so (hr.mono (by decide)) (.cons (EvP.own g lg (hr.mono (by decide)) (.cons (.var (i := 9) rfl) .nil) ⟨l.map Row.deed, by omega, rfl, rfl⟩) .nil) ⟨logOf (l.map Row.deed), by rw [logOf_len]; omega, rfl, by rw [logOf_deed]⟩) .nil)) ⟨h, l.map Row.deed, sm, nk, hn, hw.calls, deeds, rfl, rfl⟩) (.cons (d := brfD h (ledAll h (l.map Row.deed))) (EvP.own g br (hr.mono (by decide)) (.cons (.var (i := 1) rfl) (.cons (.var (i := 9) rfl) .nil)) ⟨h, l.map Row.deed, sm, nk, hn, hw.calls, deeds, rfl, rfl⟩) .nil)) ⟨_, nice1, rfl, rfl⟩))
      refine Run.nil ?_
      refine Run.cons (RunS.par2 (i := 13) (j := 14) (EvP.ev (d := brfD h (ledAll h [])) (EvP.own g br (hr.mono (by decide)) (.cons (.var (i := 1) rfl) (.cons (EvP.tup .nil (Nat.le_of_ble_eq_true rfl)) .nil)) ⟨h, [], sm, nk, hn, hw.calls, fun D hD => absurd hD List.not_mem_nil, rfl, rfl⟩) (EvI.ev (Ψ := fun d δ' => ∃ (ks : List Str) (am : Str → Int) (B3 : Bag), ks.Perm h.ks ∧ (∀ k, 0 ≤ am k ∧ am k ≤ 11) ∧ d = mD ks am ∧ δ' = [.ow a (bgO B3), .im h.dat, .im (lgD l), .im (.list (cs.map nI)), .ow st (kO C dx ra ta na h k0), .im (.int 0), .im (.list ((pcs l cs).map stD)), .no, .im (.list ((pcs l cs).map fun s => brfD h (ledAll h s))), .im (stD (l.map Row.deed)), .no, .im (.list (stsL l l.length)), .im (.dict (toldKV l l.length)), .no, .no, .no, .no, .no, .no, .no, .no, .no]) (EvI.ownB (i := 0) (q := a) g la (hr.mono (by decide)) ⟨_, rfl⟩ (EvAP.ea (.cons (.var (i := 1) rfl) (.cons .int .nil)) ⟨_, fun d o' => ∃ (ks : List Str) (am : Str → Int) (B3 : Bag), ks.Perm h.ks ∧ (∀ k, 0 ≤ am k ∧ am k ≤ 11) ∧ d = mD ks am ∧ o' = bgO B3, rfl, ⟨B2, h, 9, sm, nk, by decide, rfl, rfl, fun ks am B3 hp ha => ⟨ks, am, B3, hp, ha, rfl, rfl⟩⟩, fun d o' ⟨ks, am, B3, hp, ha, e1, e2⟩ _ => ⟨ks, am, B3, hp, ha, e1, by rw [e2]; rfl⟩⟩)) fun d δ' ⟨ks, am, B3, hp, ha, e1, e2⟩ => ?_)) rfl nd)
      subst e1 e2
      have kin : ∀ k ∈ h.ks, k ∈ ks := fun k hk => hp.mem_iff.mpr hk
      obtain ⟨lb, hlb, hact⟩ := hw.acts
      refine Run.cons (RunS.for_ ((EvItP.enumL (.var (i := 6) rfl) (B.free _ (by decide))).i ?_) rfl)
      refine ⟨krI C a st dx ra ta na h l cs ks am, ⟨B3, .no, .no, .no, .no, .no, .no, .no, .no, .no, by rw [cutAt_zero hc]; rfl⟩, ⟨fun k d δ' hk ⟨B4, x7, x10, x15, x16, x17, x18, x19, x20, x21, e⟩ => ?_, fun δ' ⟨B4, x7, x10, x15, x16, x17, x18, x19, x20, x21, e⟩ => ?_⟩⟩
      · subst e
        have kl : k < cs.length - 1 := by
          have := (List.getElem?_eq_some_iff.mp hk).1
          rwa [enumD_length, List.length_map, lpc] at this
        have hpk := pcs_at l cs kl
        have ed := enumD_get (ds := (pcs l cs).map stD) (i := k) (d := stD ((seg l (cutAt cs k) (cutAt cs (k + 1))).map Row.deed)) (by rw [List.getElem?_map, hpk]; rfl)
        rw [ed] at hk
        cases hk
        have up := cutAt_up hc (k := k) (by omega)
        have le := cutAt_le hc (k := k + 1) (by omega)
        have ix0 := ixC k (by omega)
        have ix1 := ixC (k + 1) (by omega)
        have hpm := pok _ (List.mem_of_getElem? hpk)
        have okA : ∀ n, ∀ D ∈ (l.take n).map Row.deed, DeedOk h D := fun n D hD => by
          obtain ⟨r, hr2, rfl⟩ := List.mem_map.mp hD
          exact deeds _ (List.mem_map.mpr ⟨r, List.mem_of_mem_take hr2, rfl⟩)
        have lenA : ∀ n, ((l.take n).map Row.deed).length ≤ 200 := fun n => by
          rw [List.length_map, List.length_take]; omega
        refine ⟨_, AsD.pair (i := 7) (j := 10) (d1 := .int (k : Nat)) (d2 := stD ((seg l (cutAt cs k) (cutAt cs (k + 1))).map Row.deed)) rfl nd, ?_⟩
        refine Run.cons (RunS.setP (i := 13) (d := brfD h (ledAll h ((l.take (cutAt cs (k + 1))).map Row.deed))) (EvP.cast (EvP.own g jo (hr.mono (by decide)) (.cons (.var (i := 1) rfl) (.cons (.var (i := 13) rfl) (.cons (EvP.ix (.var (i := 8) rfl) (.var (i := 7) rfl) (Ix2.lst (d := brfD h (ledAll h ((seg l (cutAt cs k) (cutAt cs (k + 1))).map Row.deed))) (atIn (by rw [List.getElem?_map, hpk]; rfl)))) .nil))) ⟨h, _, _, sm, nk, hn, rfl, rfl⟩) ((hw.join _ _ (okA _) hpm.1).trans (by rw [← List.map_append, seg_cat l (Nat.le_of_lt up)]))) ?_ nd)
        refine Run.cons (RunS.for_ ((EvItP.tup (EvP.cast (EvP.slice (l := some ((cutAt cs k : Nat) : Int)) (u := some ((cutAt cs (k + 1) : Nat) : Int)) (.var (i := 2) rfl) (EvOP.some_ (EvP.ix (.var (i := 3) rfl) (.var (i := 7) rfl) (Ix2.lst ix0))) (EvOP.some_ (EvP.ix (.var (i := 3) rfl) (EvP.bin (.var (i := 7) rfl) .int Op2.add) (Ix2.lst ix1))) Sl2.tup) (congrArg Dat.tuple (slice _ _ (Nat.le_of_lt up) le)))).i ?_) rfl)
        refine ⟨fun j δ' => ∃ x15 : Cell, δ' = [.ow a (bgO B4), .im h.dat, .im (lgD l), .im (.list (cs.map nI)), .ow st (kO C dx ra ta na h (kAt (l.take (cutAt cs k + j)))), .im (.int (putsN (l.take (cutAt cs k + j)))), .im (.list ((pcs l cs).map stD)), .im (.int (k : Nat)), .im (.list ((pcs l cs).map fun s => brfD h (ledAll h s))), .im (stD (l.map Row.deed)), .im (stD ((seg l (cutAt cs k) (cutAt cs (k + 1))).map Row.deed)), .im (.list (stsL l l.length)), .im (.dict (toldKV l l.length)), .im (brfD h (ledAll h ((l.take (cutAt cs (k + 1))).map Row.deed))), .im (mD ks am), x15, x16, x17, x18, x19, x20, x21], ⟨x15, rfl⟩, fun j d δ' hj ⟨x15, e⟩ => ?_, fun δ' ⟨x15, e⟩ => ?_⟩
        · subst e
          rw [List.getElem?_map] at hj
          obtain ⟨r, hr1, rfl⟩ := Option.map_eq_some_iff.mp hj
          have hr2 := seg_at hr1
          have nextS : kAt (l.take (cutAt cs k + (j + 1))) = stRow (kAt (l.take (cutAt cs k + j))) r := foldTake stRow k0 hr2
          have nextP : putsN (l.take (cutAt cs k + (j + 1))) = putsN (l.take (cutAt cs k + j)) + isPutR r := by
            rw [← putsN_snoc]
            congr 1
            show l.take (cutAt cs k + j + 1) = _
            rw [List.take_add_one, hr2]; rfl
          have hin := lo.at hr2
          have rm := LogOk.room (h := h) (l := l) (by omega) (cutAt cs k + j)
          obtain ⟨S, eS⟩ : ∃ S, kAt (l.take (cutAt cs k + j)) = S := ⟨_, rfl⟩
          obtain ⟨pn, eP⟩ : ∃ pn, putsN (l.take (cutAt cs k + j)) = pn := ⟨_, rfl⟩
          rw [eS] at nextS hin rm ⊢
          rw [eP] at nextP ⊢
          refine ⟨_, AsD.name (i := 15) nd, ?_⟩
          cases r with
          | put n z =>
            refine Run.one (RunS.if_ (EvTP.t (c := decide (("put" : Str) = "put")) (EvTP.cmp (EvP.ix (.var (i := 15) rfl) .int (Ix2.tup atI0)) .str Cmp2.eqS) ?_))
            rw [if_pos (by decide)]
            refine Run.cons (RunS.expr (EvI.ev (Ψ := fun d δ' => δ' = [.ow a (bgO B4), .im h.dat, .im (lgD l), .im (.list (cs.map nI)), .ow st (kO C dx ra ta na h (stRow S (.put n z))), .im (.int pn), .im (.list ((pcs l cs).map stD)), .im (.int (k : Nat)), .im (.list ((pcs l cs).map fun s => brfD h (ledAll h s))), .im (stD (l.map Row.deed)), .im (stD ((seg l (cutAt cs k) (cutAt cs (k + 1))).map Row.deed)), .im (.list (stsL l l.length)), .im (.dict (toldKV l l.length)), .im (brfD h (ledAll h ((l.take (cutAt cs (k + 1))).map Row.deed))), .im (mD ks am), .im (Row.put n z).dat, x16, x17, x18, x19, x20, x21]) (EvI.meth (i := 4) (Ρ := fun d o' => o' = kO C dx ra ta na h (stRow S (.put n z))) g c.c sp (hr.mono (by decide)) rfl (.cons (EvP.ix (.var (i := 15) rfl) .int (Ix2.tup atI1)) (.cons (EvP.ix (.var (i := 15) rfl) .int (Ix2.tup atI2)) .nil)) ⟨dx, ra, ta, na, h, S.rows, S.things, S.names, n, z, hin.1.1, hin.1.2, hin.2 n rfl, rm.1, rm.2.1, rm.2.2, rfl, rfl, rfl⟩ fun d o' e2 _ => by rw [e2]; rfl) fun d δ' e2 => ?_))
            subst e2
            refine Run.one (RunS.augI (i := 5) (n := pn) (j := 1) rfl .int ip_add ⟨.im (Row.put n z).dat, by rw [nextS, nextP]; rfl⟩ (hN := ⟨nd, rfl, Or.inl rfl, .inr rfl⟩))
          | call cl =>
            refine Run.one (RunS.if_ (EvTP.t (c := decide (("call" : Str) = "put")) (EvTP.cmp (EvP.ix (.var (i := 15) rfl) .int (Ix2.tup atI0)) .str Cmp2.eqS) ?_))
            rw [if_neg (by decide)]
            refine Run.one (RunS.expr (EvI.ev (Ψ := fun d δ' => δ' = [.ow a (bgO B4), .im h.dat, .im (lgD l), .im (.list (cs.map nI)), .ow st (kO C dx ra ta na h (stRow S (.call cl))), .im (.int pn), .im (.list ((pcs l cs).map stD)), .im (.int (k : Nat)), .im (.list ((pcs l cs).map fun s => brfD h (ledAll h s))), .im (stD (l.map Row.deed)), .im (stD ((seg l (cutAt cs k) (cutAt cs (k + 1))).map Row.deed)), .im (.list (stsL l l.length)), .im (.dict (toldKV l l.length)), .im (brfD h (ledAll h ((l.take (cutAt cs (k + 1))).map Row.deed))), .im (mD ks am), .im (Row.call cl).dat, x16, x17, x18, x19, x20, x21]) (EvI.meth (i := 4) (Ρ := fun d o' => o' = kO C dx ra ta na h (stRow S (.call cl))) g c.c sk (hr.mono (by decide)) rfl (.cons (EvP.ix (.var (i := 15) rfl) .int (Ix2.tup atI1)) .nil) ⟨dx, ra, ta, na, h, S.rows, S.things, S.names, cl, ok, hin.1, rm.1, rm.2.1, rfl, rfl, rfl⟩ fun d o' e2 _ => by rw [e2]; rfl) fun d δ' e2 => ?_))
            subst e2
            refine ⟨.im (Row.call cl).dat, ?_⟩
            rw [nextS, nextP, show pn + isPutR (.call cl) = pn from Int.add_zero pn]
        · subst e
          have eB : cutAt cs k + ((seg l (cutAt cs k) (cutAt cs (k + 1))).map Row.dat).length = cutAt cs (k + 1) := by
            rw [List.length_map, seg_len (Nat.le_of_lt up) le]; omega
          rw [eB]
          have hth := stsL_at l le
          obtain ⟨ts, ets⟩ : ∃ ts, (kAt (l.take (cutAt cs (k + 1)))).things = ts := ⟨_, rfl⟩
          rw [ets] at hth
          have lts : ts.length ≤ 900 := by rw [← ets]; exact (LogOk.room (h := h) (l := l) (by omega) _).2.1
          have tin : ∀ t ∈ (kAt (l.take (cutAt cs (k + 1)))).things, t.2 ∈ h.ks := (lo.take _).things
          have dk := okA (cutAt cs (k + 1))
          have dl := lenA (cutAt cs (k + 1))
          have ecnt : ∀ z, cntA ts z = (((l.take (cutAt cs (k + 1))).map Row.deed).foldl doA fun _ => 0) z := fun z => by rw [← ets]; exact cnt_do _ z
          have eAct : ∀ am : Str → Int, (∀ k, 0 ≤ am k) → (mD (sS h.ks) fun z => actC h (ledAll h ((l.take (cutAt cs (k + 1))).map Row.deed)) am (lb z) - actC h (ledAll h ((l.take (cutAt cs (k + 1))).map Row.deed)) am (lessK (lb z) z)) = mD (sS h.ks) (((l.take (cutAt cs (k + 1))).map Row.deed).foldl doA am) := fun am ha => congrArg Dat.dict (List.map_congr_left fun z hz => congrArg (fun i => (Dat.str z, Dat.int i)) (hact _ am dk ha z ((sS_perm _).mem_iff.mp hz)))
          have eAct0 : (mD (sS h.ks) fun z => actC h (ledAll h ((l.take (cutAt cs (k + 1))).map Row.deed)) (fun _ => 0) (lb z) - actC h (ledAll h ((l.take (cutAt cs (k + 1))).map Row.deed)) (fun _ => 0) (lessK (lb z) z)) = (mD (sS h.ks) (cntA ts)) := (eAct _ fun _ => Int.le_refl _).trans (congrArg Dat.dict (List.map_congr_left fun z _ => congrArg (fun i => (Dat.str z, Dat.int i)) (ecnt z).symm))
          have ns : (sS h.ks).Nodup := (sS_perm _).nodup_iff.mpr nk
          have s6 := ok.k6
          have ls : (sS h.ks).length ≤ 6 := by rw [(sS_perm _).length_eq]; exact s6
          have cb : ∀ z, (cntA ts z).natAbs ≤ 2000 := fun z => by
            rw [cntA_eq]
            have := List.count_le_length (a := z) (l := ts.map (·.2))
            rw [List.length_map] at this
            omega
          refine Run.cons (RunS.setP (i := 16) (d := lS (ts.map (·.2))) (EvP.cast (EvP.comp (own := [("_law_thing", 17)]) (ds := ts.map thD) (b := fun _ => true) (r := fun d => .str (unTh d).2) (f := fun d => [.ow a (bgO B4), .im h.dat, .im (lgD l), .im (.list (cs.map nI)), .ow st (kO C dx ra ta na h (kAt (l.take (cutAt cs (k + 1))))), .im (.int (putsN (l.take (cutAt cs (k + 1))))), .im (.list ((pcs l cs).map stD)), .im (.int (k : Nat)), .im (.list ((pcs l cs).map fun s => brfD h (ledAll h s))), .im (stD (l.map Row.deed)), .im (stD ((seg l (cutAt cs k) (cutAt cs (k + 1))).map Row.deed)), .im (.list (stsL l l.length)), .im (.dict (toldKV l l.length)), .im (brfD h (ledAll h ((l.take (cutAt cs (k + 1))).map Row.deed))), .im (mD ks am), x15, x16, .im d, x18, x19, x20, x21]) rfl nd (blkOk_by (N := nKr) (sc := defScope (top 84)) (by decide +kernel)) (EvItP.list (EvP.ix (.var (i := 11) rfl) (EvP.ix (.var (i := 3) rfl) (EvP.bin (.var (i := 7) rfl) .int Op2.add) (Ix2.lst ix1)) (Ix2.lst (atIn hth)))) (fun d hd s H C cl fp => AsDV.name (i := 17) nd) (fun d hd s H C cl fp => ?_) (fun d hd _ s H C cl fp => ?_) (by rw [List.length_map]; omega)) (congrArg Dat.list (keptAllTh ts))) ?_ nd)
          · rfl
          · obtain ⟨t, ht, rfl⟩ := List.mem_map.mp hd
            exact EvP.ix (.var (i := 17) rfl) .int (Ix2.tup atI1)
          refine Run.cons (RunS.setP (i := 18) (d := (mD (sS h.ks) (cntA ts))) (EvP.cast (EvP.callT (T := "dict") (.cons (EvP.cast (EvP.comp (own := [("_law_kind", 19)]) (ds := dS (sS h.ks)) (b := fun _ => true) (r := fun d => .tuple [d, .int (((ts.map (·.2)).count (sOf d) : Nat) : Int)]) (f := fun d => [.ow a (bgO B4), .im h.dat, .im (lgD l), .im (.list (cs.map nI)), .ow st (kO C dx ra ta na h (kAt (l.take (cutAt cs (k + 1))))), .im (.int (putsN (l.take (cutAt cs (k + 1))))), .im (.list ((pcs l cs).map stD)), .im (.int (k : Nat)), .im (.list ((pcs l cs).map fun s => brfD h (ledAll h s))), .im (stD (l.map Row.deed)), .im (stD ((seg l (cutAt cs k) (cutAt cs (k + 1))).map Row.deed)), .im (.list (stsL l l.length)), .im (.dict (toldKV l l.length)), .im (brfD h (ledAll h ((l.take (cutAt cs (k + 1))).map Row.deed))), .im (mD ks am), x15, .im (lS (ts.map (·.2))), x17, x18, .im d, x20, x21]) rfl nd (blkOk_by (N := nKr) (sc := defScope (top 84)) (by decide +kernel)) (EvItP.list (EvP.cast (EvP.callB (fid := "sorted") (.cons (EvP.callT (T := "list") (.cons (EvP.ix (.var (i := 1) rfl) .int (Ix2.tup atI0)) .nil) CallD.listT (B.free _ (by decide))) .nil) (CallD.sorted g (alikeStrs h.ks) (sortableStrs h.ks) (fun d hd => by obtain ⟨z, _, rfl⟩ := List.mem_map.mp hd; exact Nat.zero_le _) (by rw [List.length_map]; omega)) (B.free _ (by decide))) (congrArg Dat.list (srtS h.ks)))) (fun d hd s H C cl fp => AsDV.name (i := 19) nd) (fun d hd s H C cl fp => ?_) (fun d hd _ s H C cl fp => ?_) (len1000 (by omega) _)) (congrArg Dat.list ?_)) .nil) (CallD.dictP g (ps := (sS h.ks).map fun z => (.inr z, .int (cntA ts z)))) (B.free _ (by decide))) (congrArg Dat.dict (dictOf_nd (fun z : Str => (.inr z : L2.Key)) (fun z => .int (cntA ts z)) (nodupMap (fun a b e => by injection e) ns)))) ?_ nd)
          · rfl
          · obtain ⟨z, hz, rfl⟩ := List.mem_map.mp hd
            exact EvP.tup (.cons (.var (i := 19) rfl) (.cons (EvP.cast (EvP.count g.blk (.var (i := 16) rfl) (.var (i := 19) rfl) (plainS _) rfl (Nat.zero_le _)) (congrArg Dat.int (by rw [countS]; rfl))) .nil)) (Nat.le_of_ble_eq_true rfl)
          · rw [keptAll, List.map_map, List.map_map]
            exact List.map_congr_left fun z _ => by show Dat.tuple [.str z, .int (((ts.map (·.2)).count z : Nat) : Int)] = Dat.tuple [.str z, .int (cntA ts z)]; rw [cntA_eq]
          refine Run.cons (RunS.set (i := 20) (EvI.ev (Ψ := fun d δ' => d = .list [(mD (sS h.ks) (cntA ts)), (mD (sS h.ks) (cntA ts)), (mD (sS h.ks) (cntA ts))] ∧ δ' = [.ow a (bgO B4), .im h.dat, .im (lgD l), .im (.list (cs.map nI)), .ow st (kO C dx ra ta na h (kAt (l.take (cutAt cs (k + 1))))), .im (.int (putsN (l.take (cutAt cs (k + 1))))), .im (.list ((pcs l cs).map stD)), .im (.int (k : Nat)), .im (.list ((pcs l cs).map fun s => brfD h (ledAll h s))), .im (stD (l.map Row.deed)), .im (stD ((seg l (cutAt cs k) (cutAt cs (k + 1))).map Row.deed)), .im (.list (stsL l l.length)), .im (.dict (toldKV l l.length)), .im (brfD h (ledAll h ((l.take (cutAt cs (k + 1))).map Row.deed))), .im (mD ks am), x15, .im (lS (ts.map (·.2))), x17, .im (mD (sS h.ks) (cntA ts)), x19, x20, x21]) (EvI.lst (EvA.cons (EvP.i (EvP.cast (EvP.own g ab (hr.mono (by decide)) (.cons (.var (i := 1) rfl) (.cons (.var (i := 13) rfl) (.cons (EvP.own g na_ (hr.mono (by decide)) (.cons (.var (i := 1) rfl) .nil) ⟨h, sm, nk, rfl, rfl⟩) .nil))) ⟨h, _, sS h.ks, fun _ => 0, lb, sm, nk, hn, hlb, fun z hz => (sS_perm _).mem_iff.mpr hz, rfl, rfl⟩) eAct0) (EvA.cons (EvI.meth0 (i := 4) (Ρ := fun d o' => d = (mD (sS h.ks) (cntA ts)) ∧ o' = kO C dx ra ta na h (kAt (l.take (cutAt cs (k + 1))))) g c.c sa (hr.mono (by decide)) rfl ⟨dx, ra, ta, na, h, _, _, _, ok, tin, rfl, rfl, by rw [← ets]; exact ⟨rfl, rfl⟩⟩ fun d o' ⟨e1, e2⟩ _ => ?_))))) fun d δ' ⟨e1, e2⟩ => ?_) nd)
          · subst e1 e2
            exact EvA.cons (EvP.i (EvP.own g aa (hr.mono (by decide)) (.cons (.var (i := 1) rfl) (.cons (.var (i := 2) rfl) (.cons (EvP.ix (.var (i := 3) rfl) (EvP.bin (.var (i := 7) rfl) .int Op2.add) (Ix2.lst ix1)) .nil))) ⟨h, l, cutAt cs (k + 1), ok, lo, by omega, le, rfl, by rw [ets]⟩) (EvA.nil ⟨(show (3 : Nat) ≤ sizeLine by decide), rfl, rfl⟩))
          subst e1 e2
          refine Run.cons (RunS.if_ (EvTP.t (c := false) (EvWP.t (EvWP.or (c := false) (k := false) ?_ fun _ => EvWP.or1 ?_)) ?_))
          · exact EvTP.not (c := true) (EvTP.val (EvP.own g al (hr.mono (by decide)) (.cons (.var (i := 20) rfl) (.cons (d := .list [(mD (sS h.ks) (cntA ts)), (mD (sS h.ks) (cntA ts)), (mD (sS h.ks) (cntA ts))]) (EvP.bin (EvP.lst (ds := [(mD (sS h.ks) (cntA ts))]) (.cons (.var (i := 18) rfl) .nil) (Nat.le_of_ble_eq_true rfl)) .int (Op2.rep (by decide) (by decide) (show 1 * 3 ≤ sizeLine by decide))) .nil)) ⟨_, niceDues (n := 3) ok cb (by decide), rfl, rfl⟩))
          · have sv1 := served l (cutAt cs (k + 1)) le
            rw [ets] at sv1
            have e0 : (!decide (svA l (cutAt cs (k + 1)) = putsN (l.take (cutAt cs (k + 1))) - (ts.length : Nat))) = false := by
              rw [decide_eq_true (by omega)]; rfl
            rw [← e0]
            refine EvTP.cmp (EvP.ix (EvP.own g sv (hr.mono (by decide)) (.cons (.var (i := 1) rfl) (.cons (.var (i := 2) rfl) .nil)) ⟨h, l, ok, lo, by omega, rfl, rfl⟩) (EvP.ix (.var (i := 3) rfl) (EvP.bin (.var (i := 7) rfl) .int Op2.add) (Ix2.lst ix1)) (Ix2.lst (d := .int (svA l (cutAt cs (k + 1)))) (atIn ?_))) (EvP.bin (.var (i := 5) rfl) (EvP.cast (d' := .int (ts.length : Nat)) (EvP.callB (fid := "len") (.cons (.var (i := 16) rfl) .nil) CallD.lenL (B.free _ (by decide))) (by rw [List.length_map, List.length_map])) Op2.sub) Cmp2.neI
            unfold svL
            rw [List.getElem?_map, List.getElem?_range (by omega)]; rfl
          refine Run.nil ?_
          refine Run.cons (RunS.setP (i := 21) (d := stD ((l.take (cutAt cs (k + 1))).map Row.deed)) (EvP.own g so (hr.mono (by decide)) (.cons (d := lgD (l.take (cutAt cs (k + 1)))) (EvP.cast (EvP.slice (u := some ((cutAt cs (k + 1) : Nat) : Int)) (.var (i := 2) rfl) EvOP.none_ (EvOP.some_ (EvP.ix (.var (i := 3) rfl) (EvP.bin (.var (i := 7) rfl) .int Op2.add) (Ix2.lst ix1))) Sl2.tup) (congrArg Dat.tuple ((cutTo _ (by rw [List.length_map]; exact le)).trans List.map_take.symm))) .nil) ⟨l.take (cutAt cs (k + 1)), by rw [List.length_take]; omega, rfl, rfl⟩) ?_ nd)
          have nks : ks.Nodup := hp.nodup_iff.mpr nk
          have lks : ks.length ≤ 100 := by rw [hp.length_eq]; omega
          have wb : ∀ z, (((l.take (cutAt cs (k + 1))).map Row.deed).foldl doA am z).natAbs ≤ 2000 := fun z => Nat.le_trans (doAll_bound _ 11 am (fun z => by have := ha z; omega) z) (by omega)
          refine Run.cons (RunS.if_ (EvTP.t (c := false) (EvTP.not (c := true) (EvTP.val (EvP.own g al (hr.mono (by decide)) (.cons (d := .list [mD (sS h.ks) (((l.take (cutAt cs (k + 1))).map Row.deed).foldl doA am), mD (sS h.ks) (((l.take (cutAt cs (k + 1))).map Row.deed).foldl doA am)]) (EvP.lst (.cons (EvP.cast (EvP.own g ab (hr.mono (by decide)) (.cons (.var (i := 1) rfl) (.cons (.var (i := 13) rfl) (.cons (.var (i := 14) rfl) .nil))) ⟨h, _, ks, am, lb, sm, nk, hn, hlb, kin, rfl, rfl⟩) (eAct am fun z => (ha z).1)) (.cons (EvP.own g ac (hr.mono (by decide)) (.cons (.var (i := 1) rfl) (.cons (.var (i := 21) rfl) (.cons (.var (i := 14) rfl) .nil))) ⟨h, _, ks, am, sm, nk, kin, fun D hD => (dk D hD).in ok, rfl, rfl⟩) .nil)) (Nat.le_of_ble_eq_true rfl)) (.cons (d := .list [mD (sS h.ks) (((l.take (cutAt cs (k + 1))).map Row.deed).foldl doA am), mD (sS h.ks) (((l.take (cutAt cs (k + 1))).map Row.deed).foldl doA am)]) (EvP.bin (EvP.lst (ds := [mD (sS h.ks) (((l.take (cutAt cs (k + 1))).map Row.deed).foldl doA am)]) (.cons (EvP.cast (EvP.own g wk (hr.mono (by decide)) (.cons (.var (i := 21) rfl) (.cons (.var (i := 14) rfl) .nil)) ⟨_, ks, am, nks, lks, fun D hD => ((dk D hD).in ok).mono kin, rfl, rfl⟩) (by rw [sS_perm_eq hp])) .nil) (Nat.le_of_ble_eq_true rfl)) .int (Op2.rep (by decide) (by decide) (show 1 * 2 ≤ sizeLine by decide))) .nil)) ⟨_, niceDues (n := 2) ok wb (by decide), rfl, rfl⟩))) ?_))
          exact Run.nil (Run.nil ⟨B4, _, _, _, _, _, _, _, _, _, rfl⟩)
      · subst e
        exact Run.one (RunS.retP .bl ⟨_, bgO B4, rfl, rfl, fun _ => rfl, hΦ B4⟩)
    cases hp : pcs l cs with
    | nil =>
      rw [hp] at rest1
      exact Run.nil (rest1 B1)
    | cons p0 pr =>
      rw [hp] at rest1 flat pok lpc
      refine EvW.and1 (EvT.not (EvT.val (EvI.own g al (hr.mono (by decide)) (EvA.cons (EvI.ownB (i := 0) (q := a) g pt (hr.mono (by decide)) ⟨_, rfl⟩ (EvAP.ea (.cons (.var (i := 1) rfl) (.cons (.var (i := 8) rfl) .nil)) ⟨_, fun d o' => ∃ B2 : Bag, d = brfD h (ledAll h (l.map Row.deed)) ∧ o' = bgO B2, rfl, ⟨B1, h, p0 :: pr, sm, nk, hn, hw.join, Nat.succ_le_succ (Nat.zero_le _), by rw [lpc]; omega, fun s hs => (pok s hs).1, rfl, rfl, fun B2 => ⟨B2, by rw [flat (by simp)], rfl⟩⟩, fun d o' ⟨B2, e1, e2⟩ _ => ?_⟩))))))
      subst e1 e2
      refine EvA.cons (EvP.i (d := brfD h (ledAll h (l.map Row.deed))) (EvP.own g br (hr.mono (by decide)) (.cons (.var (i := 1) rfl) (.cons (.var (i := 9) rfl) .nil)) ⟨h, l.map Row.deed, sm, nk, hn, hw.calls, deeds, rfl, rfl⟩) (EvA.nil ⟨.bool true, ⟨_, nice1, rfl, rfl⟩, true, rfl, ?_⟩))
      exact Run.nil (rest1 B2)
end
end K94
end

/-! text XP -/
section
set_option Elab.async false
set_option autoImplicit false
set_option linter.all false
set_option maxRecDepth 100000
set_option maxHeartbeats 1000000
/-! the law itself -/
namespace K94
open PySem PySem.Spec PyProof.Rows L2
section
variable {X : Cx} {δ : List Cell} {k : Nat} {i : Nat} {x : Str} {p px pos : Pos} {Φ : Cell → List Cell → Prop} {ns : List Int}
theorem Ev.bag (g : Gx X) (h : Has X.prog X.w X.K X.mg X.base k "_law_bag" (BagSp X.K)) (hr : Room k X.A) (hs : δ[i]? = some (.sc (ns.map Dat.int))) (hk : ∀ (b : Addr) (B : Bag), Φ (.ow b (bgO B)) δ)
    (hn : NameAt X i x := by exact ⟨rfl, by first | exact Or.inl rfl | exact Or.inr (Or.inl rfl) | exact Or.inr (Or.inr rfl), by decide, by decide⟩)
    (hg : Gl X "_law_bag" := by rfl) (he : starEach [.Name x px] X.env = (false, eval (.Name x px) X.env) :: starEach [] X.env := by rfl) (hpl : (backTo pos (starEach [] X.env)).any (·.1) = false := by rfl) :
    Ev X δ (.Call (.Name "_law_bag" p) [.Name x px] [] pos) Φ := fun σ G H m Q q => by
  obtain ⟨f, fd, ps, F, hm, hk2, hb⟩ := h
  obtain ⟨v0, ev, a, xs, rfl, sq, ra⟩ := m.get hs
  refine PE.w (peCallG F hr g.gd hm hk2 hb (pa_cons (peName hn) pa_nil he) hg (by decide) he hpl) ?_
  refine ⟨.ref a, ev, G, a, xs, ns, rfl, sq, ra, m.wd, fun B b G2 H2 ok w2 f2 => ?_⟩
  obtain ⟨m3, f3⟩ := m.newCell ok w2 f2
  exact q _ _ _ G2 H2 (hk b B) m3 f3
end
def LawSp (K : PySem.W.Frag) : SpG := fun vs H Q => ∃ (a : Addr) (ns : List Int), vs = [.ref a] ∧ SqL K H a (ns.map V.int) ∧ ∀ H', Q (.bl true) H'
section
variable {P : Program} {w : World} {K : PySem.W.Frag} {mg : Str → Option Value} {base : Heap} {k : Nat} {C : Addr}
def LawOut : Out → Prop
  | .rt r _ => r = .im (.bool true)
  | _ => False
def nLw : List Str := ["_law_script", "_law_bag_here", "_law_turn", "_law_kinds", "_law_most", "_law_house"]
theorem scLw : FnScope nLw ["_law_script"] (defScope (top 85)) := ⟨rfl, rfl, rfl, by decide +kernel, rfl, by decide +kernel, by decide +kernel⟩
theorem okLaw {f : Addr} {fd : FuncData} (B : Bs K mg) (F : FunD K "law" "law" (defArgs (top 85)) (defBody (top 85)) (defScope (top 85)) [] [] f fd) (hl : ∀ h, HouseOk h → Nest h → HLaw h) (bg : Has P w K mg base 1 "_law_bag" (BagSp K)) (one : Has P w K mg base 2 "_law_one" (BorSp K rOne)) (nh : Has P w K mg base 4 "_law_nested_house" (BorSp K rNh)) (pg : Has P w K mg base 4 "_law_plain_log" (BorSp K rPg)) (kr : Has P w K mg base 10 "_law_kept_right" (BorSp K rKr)) : FnG P w K mg base 11 f fd ["_law_script"] (LawSp K) := by
  refine FnG.body F scLw (fun vs H Q ⟨_, _, e, _⟩ => by rw [e]; rfl) fun cdv A outer s H vs Q hr gd ⟨a, ns, evs, sq, q⟩ => ?_
  subst evs
  have nd := scLw.nd
  have g : Gx (CxD P w K mg base nLw "law" (top 85) f cdv A outer s H) := gxOf B.sm hr gd
  have wd : Wd H H := ⟨fun _ _ h => .inl h, fun _ _ h => h⟩
  have mt : Mt K H H (start nLw [.ref a]) [.sc (ns.map Dat.int), .no, .no, .no, .no, .no] := ⟨wd, .cons ⟨a, _, rfl, sq, RpA.ofInts ns⟩ (.cons trivial (.cons trivial (.cons trivial (.cons trivial (.cons trivial .nil))))), sepEmpty rfl⟩
  have run : Run (CxD P w K mg base nLw "law" (top 85) f cdv A outer s H) [.sc (ns.map Dat.int), .no, .no, .no, .no, .no] (defBody (top 85)) LawOut := by
    refine Run.cons (RunS.set (i := 1) (Ev.bag (i := 0) (ns := ns) g bg (hr.mono (by decide)) rfl fun b B0 => ?_) nd)
    refine Run.cons (RunS.for_ ((EvItP.range1 (n := 3) .int (by decide) (B.free _ (by decide))).i ?_) rfl)
    refine ⟨fun j δ' => ∃ (B' : Bag) (x2 x3 x4 x5 : Cell), δ' = [.sc (ns.map Dat.int), .ow b (bgO B'), x2, x3, x4, x5], ⟨B0, _, _, _, _, rfl⟩, fun j d δ' hj ⟨B', x2, x3, x4, x5, e⟩ => ?_, fun δ' ⟨B', x2, x3, x4, x5, e⟩ => ?_⟩
    · subst e
      refine ⟨_, AsD.name (i := 2) nd, ?_⟩
      refine Run.cons (RunS.asg (EvI.oneB (i := 1) (q := b) g one (hr.mono (by decide)) ⟨_, rfl⟩ (EvAP.ea (.cons (d := .list [.tuple [.int 2, .int 120], .tuple [.int 3, .int 40], .tuple [.int 4, .int 30], .tuple [.int 5, .int 16]]) ?_ .nil) ⟨B', _, .inl rfl, by simp, by simp, rfl, fun dd hd B1 => ?_⟩)))
      · refine EvP.lst ?_ ?_
        · refine .cons ?_ (.cons ?_ (.cons ?_ (.cons ?_ .nil)))
          all_goals refine EvP.tup ?_ ?_
          all_goals first | exact .cons .int (.cons .int .nil) | exact Nat.le_of_ble_eq_true rfl
        · exact Nat.le_of_ble_eq_true rfl
      have hd' : ∃ n m : Nat, 1 ≤ n ∧ n ≤ 5 ∧ m ≤ 200 ∧ dd = .tuple [.int (n : Nat), .int (m : Nat)] := by
        simp only [List.mem_cons, List.not_mem_nil, or_false] at hd
        rcases hd with rfl | rfl | rfl | rfl
        · exact ⟨2, 120, by decide, by decide, by decide, rfl⟩
        · exact ⟨3, 40, by decide, by decide, by decide, rfl⟩
        · exact ⟨4, 30, by decide, by decide, by decide, rfl⟩
        · exact ⟨5, 16, by decide, by decide, by decide, rfl⟩
      obtain ⟨n, m, n1, n5, m2, rfl⟩ := hd'
      refine ⟨_, AsD.pair (i := 3) (j := 4) (d1 := .int (n : Nat)) (d2 := .int (m : Nat)) rfl nd, ?_⟩
      refine Run.cons (RunS.set (i := 5) (EvI.ev (Ψ := fun d' δ' => ∃ (h : Hs) (B2 : Bag), HouseOk h ∧ Nest h ∧ d' = h.dat ∧ δ' = [.sc (ns.map Dat.int), .ow b (bgO B2), .im d, .im (.int (n : Nat)), .im (.int (m : Nat)), x5]) (EvI.ownB (i := 1) (q := b) g nh (hr.mono (by decide)) ⟨_, rfl⟩ (EvAP.ea (.cons (.var (i := 3) rfl) (.cons .int .nil)) ⟨_, fun d o' => ∃ (h : Hs) (B2 : Bag), HouseOk h ∧ Nest h ∧ d = h.dat ∧ o' = bgO B2, rfl, ⟨B1, n, n1, n5, rfl, rfl, fun h B2 h1 h2 _ => ⟨h, B2, h1, h2, rfl, rfl⟩⟩, fun d o' ⟨h, B2, h1, h2, e1, e2⟩ _ => ⟨h, B2, h1, h2, e1, by rw [e2]; rfl⟩⟩)) fun d' δ' ⟨h, B2, h1, h2, e1, e2⟩ => ?_) nd)
      subst e1 e2
      refine Run.one (RunS.if_ (EvT.not (EvT.val (EvI.ownB (i := 1) (q := b) g kr hr ⟨_, rfl⟩ (EvA.cons (EvP.i (.var (i := 5) rfl) (EvA.cons (EvI.ownB (i := 1) (q := b) g pg (hr.mono (by decide)) ⟨_, rfl⟩ (EvAP.ea (.cons (.var (i := 5) rfl) (.cons (.var (i := 4) rfl) .nil)) ⟨_, fun d o' => ∃ (l : List Row) (B3 : Bag), l.length ≤ m ∧ LogOk h l ∧ d = lgD l ∧ o' = bgO B3, rfl, ⟨B2, h, m, h1, m2, rfl, rfl, fun l B3 e1 e2 => ⟨l, B3, e1, e2, rfl, rfl⟩⟩, fun d o' ⟨l, B3, l1, l2, e1, e2⟩ _ => ?_⟩)))))))))
      subst e1 e2
      refine EvA.nil ⟨_, fun d o' => ∃ B4 : Bag, d = .bool true ∧ o' = bgO B4, rfl, ⟨B3, h, l, h1, h2, hl h h1 h2, l2, by omega, rfl, rfl, fun B4 => ⟨B4, rfl, rfl⟩⟩, fun d o' ⟨B4, e1, e2⟩ _ => ?_⟩
      subst e1 e2
      exact ⟨true, rfl, Run.nil ⟨B4, _, _, _, _, rfl⟩⟩
    · subst e
      exact Run.one (RunS.retP .bl rfl)
  refine run (start nLw [.ref a]) H H mt _ ⟨fun _ _ _ _ e => e.elim, fun _ _ _ _ e => e.elim, fun _ _ _ _ e => e.elim, fun rr δ' v σ' G' H' e m fr => ?_⟩
  have er : rr = .im (.bool true) := e
  subst er
  obtain ⟨x, ex, r⟩ := m.rp
  cases ex
  cases r
  exact q H'
end
end K94
end

/-! text XQ -/
section
set_option Elab.async false
set_option autoImplicit false
set_option linter.all false
set_option maxRecDepth 100000
set_option maxHeartbeats 1000000
/-! plain: beginnings of a nested house -/
namespace K94
open PySem PySem.Spec PyProof.Rows L2
theorem ahead_mem (k a : Str) : ∀ (cs : List (List Str)) (f : List Str), a ∈ cs.foldl (aheadStep k) f ↔ a ∈ f ∨ ∃ c ∈ cs, k ∈ c ∧ a ∈ before k c
  | [], f => by simp
  | c :: cs, f => by
    show a ∈ cs.foldl (aheadStep k) (aheadStep k f c) ↔ _
    rw [ahead_mem k a cs]
    have e : a ∈ aheadStep k f c ↔ a ∈ f ∨ (k ∈ c ∧ a ∈ before k c) := by
      unfold aheadStep
      by_cases hk : k ∈ c
      · rw [if_pos hk, List.mem_append, List.mem_filter]
        constructor
        · rintro (h | ⟨h, _⟩)
          · exact .inl h
          · exact .inr ⟨hk, h⟩
        · rintro (h | ⟨_, h⟩)
          · exact .inl h
          · by_cases hf : a ∈ f
            · exact .inl hf
            · exact .inr ⟨h, by simp [hf]⟩
      · rw [if_neg hk]
        constructor
        · exact .inl
        · rintro (h | ⟨h, _⟩)
          · exact h
          · exact absurd h hk
    rw [e]
    constructor
    · rintro ((h | ⟨h1, h2⟩) | ⟨d, hd, h1, h2⟩)
      · exact .inl h
      · exact .inr ⟨c, List.mem_cons_self, h1, h2⟩
      · exact .inr ⟨d, List.mem_cons_of_mem _ hd, h1, h2⟩
    · rintro (h | ⟨d, hd, h1, h2⟩)
      · exact .inl (.inl h)
      · rcases List.mem_cons.mp hd with rfl | hd
        · exact .inl (.inr ⟨h1, h2⟩)
        · exact .inr ⟨d, hd, h1, h2⟩
theorem aheadIff {cs : List (List Str)} {k a : Str} : a ∈ kindsAhead cs k ↔ ∃ c ∈ cs, k ∈ c ∧ a ∈ before k c := by
  unfold kindsAhead
  rw [ahead_mem]
  simp
/-- what stands before k, has k behind it -/
theorem behindOf {c : List Str} (nd : c.Nodup) {k a : Str} (hk : k ∈ c) (ha : a ∈ before k c) : a ∈ c ∧ k ∈ after a c := by
  unfold before at ha
  obtain ⟨i, hi⟩ := List.getElem?_of_mem ha
  rw [List.getElem?_take] at hi
  split at hi
  · rename_i hlt
    have hac := List.mem_of_getElem? hi
    refine ⟨hac, ?_⟩
    have li : i < c.length := (List.getElem?_eq_some_iff.mp hi).1
    have ei : c.idxOf a = i := by
      rw [← (List.getElem?_eq_some_iff.mp hi).2]
      exact List.Nodup.idxOf_getElem nd i li
    unfold after
    rw [ei]
    have hkk := (idxAt hk).1
    refine List.mem_of_getElem? (i := c.idxOf k - (i + 1)) ?_
    rw [List.getElem?_drop, show i + 1 + (c.idxOf k - (i + 1)) = c.idxOf k by omega]
    exact hkk
  · cases hi
theorem sublistFilter {p ks : List Str} (s : p.Sublist ks) : ks.Nodup → p = ks.filter fun k => decide (k ∈ p) := by
  induction s with
  | slnil => exact fun _ => rfl
  | @cons p ks a s ih =>
    intro nd
    obtain ⟨n1, n2⟩ := List.nodup_cons.mp nd
    have : a ∉ p := fun h => n1 (s.subset h)
    rw [List.filter_cons_of_neg (by simpa using this)]
    exact ih n2
  | @cons_cons p ks a s ih =>
    intro nd
    obtain ⟨n1, n2⟩ := List.nodup_cons.mp nd
    rw [List.filter_cons_of_pos (by simp)]
    refine congrArg _ ?_
    refine (ih n2).trans (List.filter_congr fun k hk => ?_)
    have : k ≠ a := fun e => n1 (e ▸ hk)
    simp [this]
section
variable {h : Hs}
theorem bset_filter (nk : h.ks.Nodup) {p : List Str} (hp : p ∈ bsets h) : p = h.ks.filter fun k => decide (k ∈ p) := sublistFilter (bsets_sub hp) nk
theorem bset_nd (nk : h.ks.Nodup) {p : List Str} (hp : p ∈ bsets h) : p.Nodup := nk.sublist (bsets_sub hp)
theorem bset_cl {p : List Str} (hp : p ∈ bsets h) {k a : Str} (hk : k ∈ p) (ha : a ∈ kindsAhead h.cs k) : a ∈ p := by
  have := List.all_eq_true.mp (bsets_mem.mp hp).2 k hk
  exact of_decide_eq_true (List.all_eq_true.mp this a ha)
theorem bset_of (b : Str → Bool) (cl : ∀ k ∈ h.ks, b k = true → ∀ a ∈ kindsAhead h.cs k, a ∈ h.ks ∧ b a = true) : h.ks.filter b ∈ bsets h := by
  refine bsets_mem.mpr ⟨sets_filt h.ks b, ?_⟩
  refine List.all_eq_true.mpr fun k hk => List.all_eq_true.mpr fun a ha => decide_eq_true ?_
  obtain ⟨h1, h2⟩ := List.mem_filter.mp hk
  obtain ⟨h3, h4⟩ := cl k h1 h2 a ha
  exact List.mem_filter.mpr ⟨h3, h4⟩
theorem inn_iff {p q : List Str} : q ∈ inn h p ↔ q ∈ bsets h ∧ ∀ k ∈ q, k ∈ p := by
  unfold inn subB
  rw [List.mem_filter, List.all_eq_true]
  simp
theorem drop_mem {p c : List Str} {k : Str} : k ∈ dropC p c ↔ k ∈ p ∧ k ∉ c := by
  unfold dropC
  rw [List.mem_filter]
  simp
theorem callNd (ok : HouseOk h) {c : List Str} (hc : c ∈ h.cs) : c.Nodup := by
  rw [← ok.ord c hc]
  exact ok.nd.sublist List.filter_sublist
theorem callsOk (ok : HouseOk h) (hn : Nest h) : CallsOk h := fun c hc p hp => by
  have e : dropC p c = h.ks.filter fun k => decide (k ∈ p) && !decide (k ∈ c) := by
    unfold dropC
    conv => lhs; rw [bset_filter ok.nd hp]
    rw [List.filter_filter]
    refine List.filter_congr fun k hk => ?_
    have : decide (k ∈ h.ks.filter fun k => decide (k ∈ p)) = decide (k ∈ p) := by rw [← bset_filter ok.nd hp]
    exact Bool.and_comm _ _
  rw [e]
  refine bset_of _ fun k hk hb a ha => ?_
  rw [Bool.and_eq_true] at hb
  have hkp := of_decide_eq_true hb.1
  have hkc : k ∉ c := by simpa using hb.2
  have hap := bset_cl hp hkp ha
  refine ⟨bsets_in hp hap, ?_⟩
  rw [decide_eq_true hap, Bool.true_and]
  obtain ⟨d, hd, hkd, hbd⟩ := aheadIff.mp ha
  obtain ⟨had, hka⟩ := behindOf (callNd ok hd) hkd hbd
  have : a ∉ c := fun hac => hkc (hn d hd c hc a had hac k hka)
  simpa using this
/-! the least beginning with k -/
inductive Reach (cs : List (List Str)) (k : Str) : Str → Prop
  | refl : Reach cs k k
  | step {x a : Str} : Reach cs k x → a ∈ kindsAhead cs x → Reach cs k a
noncomputable def rB (cs : List (List Str)) (k x : Str) : Bool := @decide (Reach cs k x) (Classical.propDecidable _)
theorem rB_iff {cs : List (List Str)} {k x : Str} : rB cs k x = true ↔ Reach cs k x := by
  unfold rB
  exact @decide_eq_true_iff _ (Classical.propDecidable _)
noncomputable def lbK (h : Hs) (k : Str) : List Str := h.ks.filter fun x => rB h.cs k x
theorem lbK_mem {k x : Str} : x ∈ lbK h k ↔ x ∈ h.ks ∧ Reach h.cs k x := by
  unfold lbK
  rw [List.mem_filter]
  rw [rB_iff]
theorem aheadIn (ok : HouseOk h) {k a : Str} (ha : a ∈ kindsAhead h.cs k) : a ∈ h.ks := by
  obtain ⟨d, hd, hkd, hbd⟩ := aheadIff.mp ha
  exact ok.sub hd a (behindOf (callNd ok hd) hkd hbd).1
/-- kinds ahead come earlier in the house -/
theorem idxSub {c ks : List Str} (s : c.Sublist ks) : ks.Nodup → ∀ {a k : Str}, a ∈ c → k ∈ c → c.idxOf a < c.idxOf k → ks.idxOf a < ks.idxOf k := by
  induction s with
  | slnil => exact fun _ a k ha _ _ => absurd ha List.not_mem_nil
  | @cons c ks b s ih =>
    intro nd a k ha hk lt
    obtain ⟨n1, n2⟩ := List.nodup_cons.mp nd
    have na : b ≠ a := fun e => n1 (e ▸ s.subset ha)
    have nk : b ≠ k := fun e => n1 (e ▸ s.subset hk)
    rw [idxNe na, idxNe nk]
    have := ih n2 ha hk lt
    omega
  | @cons_cons c ks b s ih =>
    intro nd a k ha hk lt
    obtain ⟨n1, n2⟩ := List.nodup_cons.mp nd
    by_cases ea : b = a
    · subst ea
      rw [List.idxOf_cons_self] at lt ⊢
      have nk : b ≠ k := fun e => by subst e; rw [List.idxOf_cons_self] at lt; omega
      rw [idxNe nk]
      omega
    · have ha' : a ∈ c := by
        rcases List.mem_cons.mp ha with e | m
        · exact absurd e.symm ea
        · exact m
      rw [idxNe ea] at lt ⊢
      have nk : b ≠ k := fun e => by subst e; rw [List.idxOf_cons_self] at lt; omega
      have hk' : k ∈ c := by
        rcases List.mem_cons.mp hk with e | m
        · exact absurd e.symm nk
        · exact m
      rw [idxNe nk] at lt ⊢
      have := ih n2 ha' hk' (by omega)
      omega
theorem aheadLt (ok : HouseOk h) {k a : Str} (ha : a ∈ kindsAhead h.cs k) : h.ks.idxOf a < h.ks.idxOf k := by
  obtain ⟨d, hd, hkd, hbd⟩ := aheadIff.mp ha
  have nd := callNd ok hd
  have had := (behindOf nd hkd hbd).1
  have sub : d.Sublist h.ks := by rw [← ok.ord d hd]; exact List.filter_sublist
  refine idxSub sub ok.nd had hkd ?_
  unfold before at hbd
  obtain ⟨i, hi⟩ := List.getElem?_of_mem hbd
  rw [List.getElem?_take] at hi
  split at hi
  · have li : i < d.length := (List.getElem?_eq_some_iff.mp hi).1
    have ei : d.idxOf a = i := by
      rw [← (List.getElem?_eq_some_iff.mp hi).2]
      exact List.Nodup.idxOf_getElem nd i li
    omega
  · cases hi
theorem reachLe (ok : HouseOk h) {k x : Str} (r : Reach h.cs k x) : x = k ∨ h.ks.idxOf x < h.ks.idxOf k := by
  induction r with
  | refl => exact .inl rfl
  | step r ha ih =>
    have := aheadLt ok ha
    rcases ih with e | e
    · rw [e] at this; exact .inr this
    · exact .inr (by omega)
theorem lbOk (ok : HouseOk h) : LbOk h (lbK h) := fun k hk => by
  refine ⟨⟨?_, ?_, ?_, ?_⟩, ?_, ?_⟩
  · unfold lbK
    refine List.filter_congr fun x hx => ?_
    have : x ∈ lbK h k ↔ Reach h.cs k x := by rw [lbK_mem]; exact ⟨fun h => h.2, fun h => ⟨hx, h⟩⟩
    show decide (x ∈ lbK h k) = rB h.cs k x
    cases e : rB h.cs k x with
    | true => exact decide_eq_true (this.mpr (rB_iff.mp e))
    | false => exact decide_eq_false fun m => by rw [rB_iff.mpr (this.mp m)] at e; cases e
  · intro x hx
    rw [List.mem_singleton.mp hx]
    exact lbK_mem.mpr ⟨hk, .refl⟩
  · intro x hx j hj
    exact lbK_mem.mpr ⟨aheadIn ok hj, .step (lbK_mem.mp hx).2 hj⟩
  · intro S hS hcl x hx
    have r := (lbK_mem.mp hx).2
    have : ∀ y, Reach h.cs k y → y ∈ S := fun y r => by
      induction r with
      | refl => exact hS k List.mem_cons_self
      | step r ha ih => exact hcl _ ih _ ha
    exact this x r
  · unfold lbK
    exact bset_of _ fun x hx hb a ha => ⟨aheadIn ok ha, rB_iff.mpr (.step (rB_iff.mp hb) ha)⟩
  · have e : lessK (lbK h k) k = h.ks.filter fun x => rB h.cs k x && !decide (x = k) := by
      unfold lessK lbK
      rw [List.filter_filter]
      exact List.filter_congr fun x _ => Bool.and_comm _ _
    rw [e]
    refine bset_of _ fun x hx hb a ha => ?_
    rw [Bool.and_eq_true] at hb
    have hr := rB_iff.mp hb.1
    have hne : x ≠ k := by simpa using hb.2
    refine ⟨aheadIn ok ha, ?_⟩
    rw [Bool.and_eq_true]
    refine ⟨rB_iff.mpr (.step hr ha), ?_⟩
    have l1 := aheadLt ok ha
    have l2 : h.ks.idxOf x < h.ks.idxOf k := (reachLe ok hr).resolve_left hne
    have : a ≠ k := fun e => by rw [e] at l1; omega
    simpa using this
end
end K94
end

/-! text XR -/
section
set_option Elab.async false
set_option autoImplicit false
set_option linter.all false
set_option maxRecDepth 100000
set_option maxHeartbeats 1000000
/-! plain: briefs act and join -/
namespace K94
open PySem PySem.Spec PyProof.Rows L2
def IsMx {α : Type} (qs : List α) (f : α → Int) (v : Int) : Prop := (∃ q ∈ qs, f q = v) ∧ ∀ q ∈ qs, f q ≤ v
theorem mxI_eq {α : Type} {qs : List α} {f : α → Int} {v : Int} (h : IsMx qs f v) : mxI (qs.map f) = v := by
  obtain ⟨⟨q, hq, e⟩, hle⟩ := h
  have m1 : v ∈ qs.map f := List.mem_map.mpr ⟨q, hq, e⟩
  have h1 := mxI_le m1
  have h2 := mxI_mem (l := qs.map f) (List.ne_nil_of_mem m1)
  obtain ⟨q', hq', e'⟩ := List.mem_map.mp h2
  have := hle q' hq'
  omega
theorem isMx {α : Type} {qs : List α} {f : α → Int} (ne : qs ≠ []) : IsMx qs f (mxI (qs.map f)) := by
  refine ⟨?_, fun q hq => mxI_le (List.mem_map.mpr ⟨q, hq, rfl⟩)⟩
  have h2 := mxI_mem (l := qs.map f) (fun e => ne (List.map_eq_nil_iff.mp e))
  obtain ⟨q', hq', e'⟩ := List.mem_map.mp h2
  exact ⟨q', hq', e'⟩
abbrev sm (am : Str → Int) (p : List Str) : Int := (p.map am).sum
theorem sm_split (am : Str → Int) (b : Str → Bool) : ∀ p : List Str, sm am p = sm am (p.filter b) + sm am (p.filter fun k => !b k)
  | [] => rfl
  | k :: p => by
    have ih := sm_split am b p
    have e0 : sm am (k :: p) = am k + sm am p := by show ((k :: p).map am).sum = _; rw [List.map_cons, List.sum_cons]
    cases hb : b k with
    | true =>
      rw [List.filter_cons_of_pos hb, List.filter_cons_of_neg (by rw [hb]; simp), e0]
      have e1 : sm am (k :: p.filter b) = am k + sm am (p.filter b) := by show ((k :: p.filter b).map am).sum = _; rw [List.map_cons, List.sum_cons]
      rw [e1]; omega
    | false =>
      rw [List.filter_cons_of_neg (by rw [hb]; simp), List.filter_cons_of_pos (by rw [hb]; rfl), e0]
      have e1 : sm am (k :: p.filter fun k => !b k) = am k + sm am (p.filter fun k => !b k) := by show ((k :: p.filter fun k => !b k).map am).sum = _; rw [List.map_cons, List.sum_cons]
      rw [e1]; omega
theorem sm_nn {am : Str → Int} (ha : ∀ k, 0 ≤ am k) : ∀ p : List Str, 0 ≤ sm am p
  | [] => Int.le_refl _
  | k :: p => by
    have := sm_nn ha p
    have h0 := ha k
    show 0 ≤ ((k :: p).map am).sum
    rw [List.map_cons, List.sum_cons]
    have : 0 ≤ (p.map am).sum := this
    omega
theorem sm_zero {am : Str → Int} : ∀ {p : List Str}, (∀ k ∈ p, am k = 0) → sm am p = 0
  | [], _ => rfl
  | k :: p, h => by
    show ((k :: p).map am).sum = 0
    rw [List.map_cons, List.sum_cons, h k List.mem_cons_self]
    have : (p.map am).sum = 0 := sm_zero fun z hz => h z (List.mem_cons_of_mem _ hz)
    omega
theorem sm_ge {am : Str → Int} (ha : ∀ k, 0 ≤ am k) {z : Str} : ∀ {p : List Str}, z ∈ p → am z ≤ sm am p
  | [], h => absurd h List.not_mem_nil
  | k :: p, h => by
    show am z ≤ ((k :: p).map am).sum
    rw [List.map_cons, List.sum_cons]
    have hp : 0 ≤ (p.map am).sum := sm_nn ha p
    have h0 := ha k
    rcases List.mem_cons.mp h with rfl | m
    · omega
    · have : am z ≤ (p.map am).sum := sm_ge ha m
      omega
theorem sm_up (am : Str → Int) (z : Str) (n : Int) : ∀ {p : List Str}, p.Nodup → sm (upA am z n) p = sm am p + if z ∈ p then n - am z else 0
  | [], _ => rfl
  | k :: p, nd => by
    obtain ⟨n1, n2⟩ := List.nodup_cons.mp nd
    have ih := sm_up am z n n2
    show ((k :: p).map (upA am z n)).sum = ((k :: p).map am).sum + _
    rw [List.map_cons, List.sum_cons, List.map_cons, List.sum_cons]
    have ih' : (p.map (upA am z n)).sum = (p.map am).sum + if z ∈ p then n - am z else 0 := ih
    rw [ih']
    unfold upA
    by_cases e : k = z
    · subst e
      rw [if_neg n1]
      simp
      omega
    · have hz : z ∈ k :: p ↔ z ∈ p := by
        rw [List.mem_cons]
        exact ⟨fun h => h.resolve_left fun e' => e e'.symm, .inr⟩
      rw [if_neg e]
      by_cases hm : z ∈ p
      · rw [if_pos hm, if_pos (hz.mpr hm)]; omega
      · rw [if_neg hm, if_neg fun h => hm (hz.mp h)]; omega
theorem doA_nn {am : Str → Int} (ha : ∀ k, 0 ≤ am k) (D : Deed) : ∀ k, 0 ≤ doA am D k := fun k => by
  have h0 := ha k
  cases D with
  | put z =>
    show 0 ≤ upA am z (am z + 1) k
    unfold upA
    have := ha z
    split <;> omega
  | call c =>
    show 0 ≤ (match takenK am c with | none => am | some k => upA am k (am k - 1)) k
    cases ht : takenK am c with
    | none => exact h0
    | some z =>
      show 0 ≤ upA am z (am z - 1) k
      have hz : 0 < am z := by
        have := List.mem_of_mem_head? ht
        exact of_decide_eq_true (List.mem_filter.mp this).2
      unfold upA
      split <;> omega
theorem doAll_nn : ∀ (st : List Deed) {am : Str → Int}, (∀ k, 0 ≤ am k) → ∀ k, 0 ≤ st.foldl doA am k
  | [], _, h => h
  | D :: st, am, h => doAll_nn st (am := doA am D) (doA_nn h D)
section
variable {h : Hs}
theorem lessN_01 (p r : List Str) : lessN p r = 0 ∨ lessN p r = 1 := by
  unfold lessN
  split
  · exact .inr rfl
  · exact .inl rfl
theorem filterLen {α : Type} (b : α → Bool) : ∀ p : List α, (p.filter b).length < p.length ↔ ∃ k ∈ p, b k = false
  | [] => by simp
  | k :: p => by
    have ih := filterLen b p
    have hle := List.length_filter_le b p
    cases hb : b k with
    | true =>
      rw [List.filter_cons_of_pos hb]
      simp only [List.length_cons]
      constructor
      · intro h
        obtain ⟨z, hz, e⟩ := ih.mp (by omega)
        exact ⟨z, List.mem_cons_of_mem _ hz, e⟩
      · rintro ⟨z, hz, e⟩
        rcases List.mem_cons.mp hz with rfl | m
        · rw [hb] at e; cases e
        · have := ih.mpr ⟨z, m, e⟩; omega
    | false =>
      rw [List.filter_cons_of_neg (by rw [hb]; simp)]
      simp only [List.length_cons]
      exact ⟨fun _ => ⟨k, List.mem_cons_self, hb⟩, fun _ => by omega⟩
theorem lessN_iff {p c : List Str} : lessN p (dropC p c) = 1 ↔ ∃ k ∈ p, k ∈ c := by
  unfold lessN
  have e : decide (((dS (dropC p c)).length : Int) < ((dS p).length : Int)) = true ↔ (dropC p c).length < p.length := by
    rw [decide_eq_true_iff, List.length_map, List.length_map]
    omega
  by_cases hl : (dropC p c).length < p.length
  · rw [if_pos (e.mpr hl)]
    obtain ⟨k, hk, hb⟩ := (filterLen (fun k => !decide (k ∈ c)) p).mp hl
    exact ⟨fun _ => ⟨k, hk, by simpa using hb⟩, fun _ => rfl⟩
  · rw [if_neg fun z => hl (e.mp z)]
    constructor
    · intro z; cases z
    · rintro ⟨k, hk, hc⟩
      exact absurd ((filterLen (fun k => !decide (k ∈ c)) p).mpr ⟨k, hk, by simpa using hc⟩) hl
theorem inn_drop {p q c : List Str} (hq : q ∈ inn h (dropC p c)) : q ∈ inn h p := by
  obtain ⟨h1, h2⟩ := inn_iff.mp hq
  exact inn_iff.mpr ⟨h1, fun k hk => (drop_mem.mp (h2 k hk)).1⟩
/-- a brief acts as the stretch -/
theorem acts_sum (ok : HouseOk h) (hn : Nest h) {am : Str → Int} (ha : ∀ k, 0 ≤ am k) (st : List Deed) : (∀ D ∈ st, DeedOk h D) → ∀ p ∈ bsets h, IsMx (inn h p) (fun q => sm am q + ledAll h st p q) (sm (st.foldl doA am) p) := by
  have nk := ok.nd
  refine snocInd (M := fun st => (∀ D ∈ st, DeedOk h D) → ∀ p ∈ bsets h, IsMx (inn h p) (fun q => sm am q + ledAll h st p q) (sm (st.foldl doA am) p)) ?_ ?_ st
  · intro _ p hp
    refine ⟨⟨p, inn_self hp, Int.add_zero _⟩, fun q hq => ?_⟩
    obtain ⟨h1, h2⟩ := inn_iff.mp hq
    have e : q = p.filter fun k => decide (k ∈ q) := by
      have e1 := bset_filter nk h1
      have e2 := bset_filter nk hp
      conv => rhs; rw [e2]
      rw [List.filter_filter]
      refine e1.trans (List.filter_congr fun k hk => ?_)
      by_cases hq : k ∈ q
      · have hkp := h2 k hq
        simp [hq, hkp]
      · simp [hq]
    have hs := sm_split am (fun k => decide (k ∈ q)) p
    rw [← e] at hs
    have := sm_nn ha (p.filter fun k => !decide (k ∈ q))
    show sm am q + 0 ≤ sm am p
    omega
  · intro st D ih hst p hp
    have ih := ih fun z hz => hst z (List.mem_append_left _ hz)
    have hD := hst D (List.mem_append_right _ (List.mem_singleton.mpr rfl))
    have el : ledAll h (st ++ [D]) = led h (ledAll h st) D := by
      unfold ledAll
      rw [List.foldl_append]; rfl
    have ed : (st ++ [D]).foldl doA am = doA (st.foldl doA am) D := by rw [List.foldl_append]; rfl
    have nn : ∀ k, 0 ≤ st.foldl doA am k := doAll_nn st ha
    rw [el, ed]
    generalize st.foldl doA am = am' at ih nn
    generalize ledAll h st = M at ih
    have pnd := bset_nd nk hp
    obtain ⟨⟨q0, hq0, e0⟩, hle0⟩ := ih p hp
    cases D with
    | put k =>
      have es : sm (doA am' (.put k)) p = sm am' p + (if decide (k ∈ p) = true then 1 else 0) := by
        show sm (upA am' k (am' k + 1)) p = _
        rw [sm_up am' k _ pnd]
        by_cases hk : k ∈ p
        · rw [if_pos hk, if_pos (decide_eq_true hk)]; omega
        · rw [if_neg hk, if_neg (by simpa using hk)]
      rw [es]
      refine ⟨⟨q0, hq0, ?_⟩, fun q hq => ?_⟩
      · show sm am q0 + (M p q0 + _) = _
        have : sm am q0 + M p q0 = sm am' p := e0
        omega
      · show sm am q + (M p q + _) ≤ _
        have : sm am q + M p q ≤ sm am' p := hle0 q hq
        omega
    | call c =>
      have hc : c ∈ h.cs := hD
      have hr := callsOk ok hn c hc p hp
      obtain ⟨⟨q1, hq1, e1⟩, hle1⟩ := ih (dropC p c) hr
      have e0' : sm am q0 + M p q0 = sm am' p := e0
      have e1' : sm am q1 + M (dropC p c) q1 = sm am' (dropC p c) := e1
      have split := sm_split am' (fun k => decide (k ∈ c)) p
      have ed : (p.filter fun k => !decide (k ∈ c)) = dropC p c := rfl
      rw [ed] at split
      have pc0 := sm_nn nn (p.filter fun k => decide (k ∈ c))
      have key : sm (doA am' (.call c)) p = max (sm am' p - lessN p (dropC p c)) (sm am' (dropC p c)) := by
        show sm (match takenK am' c with | none => am' | some k => upA am' k (am' k - 1)) p = _
        cases ht : takenK am' c with
        | none =>
          have z : sm am' (p.filter fun k => decide (k ∈ c)) = 0 := sm_zero fun k hk => by
            have hkc := of_decide_eq_true (List.mem_filter.mp hk).2
            have : ¬ 0 < am' k := fun hp => by
              have hm : k ∈ c.filter fun k => decide (0 < am' k) := List.mem_filter.mpr ⟨hkc, decide_eq_true hp⟩
              unfold takenK at ht
              rw [List.head?_eq_none_iff.mp ht] at hm
              exact absurd hm List.not_mem_nil
            have := nn k
            omega
          show sm am' p = _
          rcases lessN_01 p (dropC p c) with e | e <;> rw [e] <;> omega
        | some z =>
          show sm (upA am' z (am' z - 1)) p = _
          have hzm := List.mem_of_mem_head? ht
          obtain ⟨hzc, hzp⟩ := List.mem_filter.mp hzm
          have hzp := of_decide_eq_true hzp
          rw [sm_up am' z _ pnd]
          by_cases hzin : z ∈ p
          · rw [if_pos hzin, lessN_iff.mpr ⟨z, hzin, hzc⟩]
            have := sm_ge nn (List.mem_filter.mpr ⟨hzin, decide_eq_true hzc⟩ : z ∈ p.filter fun k => decide (k ∈ c))
            omega
          · rw [if_neg hzin]
            have zz : sm am' (p.filter fun k => decide (k ∈ c)) = 0 := sm_zero fun k hk => by
              obtain ⟨hkp, hkc⟩ := List.mem_filter.mp hk
              have hkc := of_decide_eq_true hkc
              have cn := callNd ok hc
              have hlt : c.idxOf k < c.idxOf z := by
                rcases Nat.lt_or_ge (c.idxOf k) (c.idxOf z) with l | l
                · exact l
                · have ne : c.idxOf k ≠ c.idxOf z := fun e => by
                    have a1 := (idxAt hkc).1
                    have a2 := (idxAt hzc).1
                    rw [e, a2] at a1
                    have : z = k := Option.some.inj a1
                    exact hzin (this ▸ hkp)
                  have hb : z ∈ before k c := by
                    unfold before
                    refine List.mem_of_getElem? (i := c.idxOf z) ?_
                    rw [List.getElem?_take, if_pos (by omega)]
                    exact (idxAt hzc).1
                  exact absurd (bset_cl hp hkp (aheadIff.mpr ⟨c, hc, hkc, hb⟩)) hzin
              have nt : ¬ 0 < am' k := fun hp2 => by
                have a1 := (idxAt hkc).1
                have first : ∀ (l : List Str) (i : Nat), l[i]? = some k → i < l.idxOf z → l.filter (fun k => decide (0 < am' k)) ≠ [] ∧ (l.filter fun k => decide (0 < am' k)).head? ≠ some z := by
                  intro l
                  induction l with
                  | nil => intro i hi _; simp at hi
                  | cons y l ihl =>
                    intro i hi hlt
                    have yz : y ≠ z := fun e => by subst e; rw [List.idxOf_cons_self] at hlt; omega
                    by_cases hy : 0 < am' y
                    · rw [List.filter_cons_of_pos (p := fun k => decide (0 < am' k)) (decide_eq_true hy)]
                      exact ⟨by simp, fun e => yz (Option.some.inj e)⟩
                    · rw [List.filter_cons_of_neg (p := fun k => decide (0 < am' k)) (by simpa using hy)]
                      rw [idxNe yz] at hlt
                      cases i with
                      | zero =>
                        have : y = k := by simpa using hi
                        exact absurd (this ▸ hp2) hy
                      | succ i => exact ihl i (by simpa using hi) (by omega)
                exact (first c _ a1 hlt).2 ht
              have := nn k
              omega
            rcases lessN_01 p (dropC p c) with e | e <;> rw [e] <;> omega
      rw [key]
      have upper : ∀ q ∈ inn h p, sm am q + led h M (.call c) p q ≤ max (sm am' p - lessN p (dropC p c)) (sm am' (dropC p c)) := fun q hq => by
        show sm am q + max (M p q - lessN p (dropC p c)) (if q ∈ inn h (dropC p c) then M (dropC p c) q else M p q - lessN p (dropC p c)) ≤ _
        have l0 : sm am q + M p q ≤ sm am' p := hle0 q hq
        split
        · rename_i hqr
          have l1 : sm am q + M (dropC p c) q ≤ sm am' (dropC p c) := hle1 q hqr
          omega
        · omega
      refine ⟨?_, upper⟩
      rcases Int.le_total (sm am' (dropC p c)) (sm am' p - lessN p (dropC p c)) with l | l
      · refine ⟨q0, hq0, ?_⟩
        have u := upper q0 hq0
        show sm am q0 + max (M p q0 - lessN p (dropC p c)) (if q0 ∈ inn h (dropC p c) then M (dropC p c) q0 else M p q0 - lessN p (dropC p c)) = _
        have u' : sm am q0 + max (M p q0 - lessN p (dropC p c)) (if q0 ∈ inn h (dropC p c) then M (dropC p c) q0 else M p q0 - lessN p (dropC p c)) ≤ max (sm am' p - lessN p (dropC p c)) (sm am' (dropC p c)) := u
        omega
      · refine ⟨q1, inn_drop hq1, ?_⟩
        have u' : sm am q1 + max (M p q1 - lessN p (dropC p c)) (if q1 ∈ inn h (dropC p c) then M (dropC p c) q1 else M p q1 - lessN p (dropC p c)) ≤ max (sm am' p - lessN p (dropC p c)) (sm am' (dropC p c)) := upper q1 (inn_drop hq1)
        show sm am q1 + max (M p q1 - lessN p (dropC p c)) (if q1 ∈ inn h (dropC p c) then M (dropC p c) q1 else M p q1 - lessN p (dropC p c)) = _
        rw [if_pos hq1] at u' ⊢
        omega
end
end K94
end

/-! text XS -/
section
set_option Elab.async false
set_option autoImplicit false
set_option linter.all false
set_option maxRecDepth 100000
set_option maxHeartbeats 1000000
/-! plain: briefs joined; the house's law -/
namespace K94
open PySem PySem.Spec PyProof.Rows L2
section
variable {h : Hs}
theorem ledAll_snoc (s : List Deed) (D : Deed) : ledAll h (s ++ [D]) = led h (ledAll h s) D := by
  unfold ledAll
  rw [List.foldl_append]; rfl
theorem led_call (M : List Str → List Str → Int) (c p q : List Str) : led h M (.call c) p q = max (M p q - lessN p (dropC p c)) (if q ∈ inn h (dropC p c) then M (dropC p c) q else M p q - lessN p (dropC p c)) := rfl
theorem inn_trans {p m q : List Str} (h1 : ∀ k ∈ m, k ∈ p) (h2 : q ∈ inn h m) : q ∈ inn h p := by
  obtain ⟨a, b⟩ := inn_iff.mp h2
  exact inn_iff.mpr ⟨a, fun k hk => h1 k (b k hk)⟩
theorem mids_iff {p q m : List Str} : m ∈ mids h p q ↔ m ∈ inn h p ∧ q ∈ inn h m := by
  unfold mids
  rw [List.mem_filter]
  simp
theorem led_mono (ok : HouseOk h) (hn : Nest h) (s : List Deed) : (∀ D ∈ s, DeedOk h D) → ∀ m ∈ bsets h, ∀ p ∈ bsets h, (∀ k ∈ m, k ∈ p) → ∀ q ∈ inn h m, ledAll h s m q ≤ ledAll h s p q := by
  refine snocInd (M := fun s => (∀ D ∈ s, DeedOk h D) → ∀ m ∈ bsets h, ∀ p ∈ bsets h, (∀ k ∈ m, k ∈ p) → ∀ q ∈ inn h m, ledAll h s m q ≤ ledAll h s p q) (fun _ _ _ _ _ _ _ _ => Int.le_refl _) ?_ s
  intro s D ih hs m hm p hp hmp q hq
  have ih := ih fun z hz => hs z (List.mem_append_left _ hz)
  have hD := hs D (List.mem_append_right _ (List.mem_singleton.mpr rfl))
  rw [ledAll_snoc]
  generalize ledAll h s = M at ih
  have l0 := ih m hm p hp hmp q hq
  cases D with
  | put k =>
    show M m q + (if decide (k ∈ m) = true then 1 else 0) ≤ M p q + (if decide (k ∈ p) = true then 1 else 0)
    by_cases hk : k ∈ m
    · rw [if_pos (decide_eq_true hk), if_pos (decide_eq_true (hmp k hk))]; omega
    · rw [if_neg (by simpa using hk)]
      split <;> omega
  | call c =>
    have hc : c ∈ h.cs := hD
    have hrm := callsOk ok hn c hc m hm
    have hrp := callsOk ok hn c hc p hp
    have sub : ∀ k ∈ dropC m c, k ∈ dropC p c := fun k hk => by
      obtain ⟨a, b⟩ := drop_mem.mp hk
      exact drop_mem.mpr ⟨hmp k a, b⟩
    rw [led_call, led_call]
    have key : M m q - lessN m (dropC m c) ≤ max (M p q - lessN p (dropC p c)) (if q ∈ inn h (dropC p c) then M (dropC p c) q else M p q - lessN p (dropC p c)) := by
      rcases lessN_01 m (dropC m c) with em | em
      · rcases lessN_01 p (dropC p c) with ep | ep
        · rw [em, ep]; omega
        · have no : ∀ k ∈ m, k ∉ c := fun k hk hkc => by
            have := lessN_iff.mpr ⟨k, hk, hkc⟩
            omega
          have msub : ∀ k ∈ m, k ∈ dropC p c := fun k hk => drop_mem.mpr ⟨hmp k hk, no k hk⟩
          have l1 := ih m hm (dropC p c) hrp msub q hq
          rw [if_pos (inn_trans msub hq), em]
          omega
      · rcases lessN_01 p (dropC p c) with ep | ep <;> rw [em, ep] <;> omega
    by_cases hqm : q ∈ inn h (dropC m c)
    · rw [if_pos hqm]
      have l1 := ih (dropC m c) hrm (dropC p c) hrp sub q hqm
      rw [if_pos (inn_trans sub hqm)] at key ⊢
      omega
    · rw [if_neg hqm]
      omega
theorem join_mx (ok : HouseOk h) (hn : Nest h) {s1 : List Deed} (h1 : ∀ D ∈ s1, DeedOk h D) (s2 : List Deed) : (∀ D ∈ s2, DeedOk h D) → ∀ p ∈ bsets h, ∀ q ∈ inn h p, IsMx (mids h p q) (fun m => ledAll h s2 p m + ledAll h s1 m q) (ledAll h (s1 ++ s2) p q) := by
  refine snocInd (M := fun s2 => (∀ D ∈ s2, DeedOk h D) → ∀ p ∈ bsets h, ∀ q ∈ inn h p, IsMx (mids h p q) (fun m => ledAll h s2 p m + ledAll h s1 m q) (ledAll h (s1 ++ s2) p q)) ?_ ?_ s2
  · intro _ p hp q hq
    rw [List.append_nil]
    refine ⟨⟨p, mids_self hp hq, Int.zero_add _⟩, fun m hm => ?_⟩
    obtain ⟨a, b⟩ := mids_iff.mp hm
    obtain ⟨a1, a2⟩ := inn_iff.mp a
    show 0 + ledAll h s1 m q ≤ _
    have := led_mono ok hn s1 h1 m a1 p hp a2 q b
    omega
  · intro s2 D ih hs p hp q hq
    have ih := ih fun z hz => hs z (List.mem_append_left _ hz)
    have hD := hs D (List.mem_append_right _ (List.mem_singleton.mpr rfl))
    rw [← List.append_assoc, ledAll_snoc, ledAll_snoc]
    generalize ledAll h (s1 ++ s2) = W at ih
    generalize ledAll h s2 = M2 at ih
    generalize ledAll h s1 = M1 at ih
    obtain ⟨⟨m0, hm0, e0⟩, hle0⟩ := ih p hp q hq
    have e0 : M2 p m0 + M1 m0 q = W p q := e0
    cases D with
    | put k =>
      refine ⟨⟨m0, hm0, ?_⟩, fun m hm => ?_⟩
      · show M2 p m0 + (if decide (k ∈ p) = true then 1 else 0) + M1 m0 q = W p q + (if decide (k ∈ p) = true then 1 else 0)
        omega
      · have : M2 p m + M1 m q ≤ W p q := hle0 m hm
        show M2 p m + (if decide (k ∈ p) = true then 1 else 0) + M1 m q ≤ W p q + (if decide (k ∈ p) = true then 1 else 0)
        omega
    | call c =>
      have hc : c ∈ h.cs := hD
      have hr := callsOk ok hn c hc p hp
      have upper : ∀ m ∈ mids h p q, led h M2 (.call c) p m + M1 m q ≤ led h W (.call c) p q := fun m hm => by
        obtain ⟨a, b⟩ := mids_iff.mp hm
        have l0 : M2 p m + M1 m q ≤ W p q := hle0 m hm
        rw [led_call, led_call]
        by_cases hmr : m ∈ inn h (dropC p c)
        · have hqr : q ∈ inn h (dropC p c) := inn_trans (inn_iff.mp hmr).2 b
          have l1 : M2 (dropC p c) m + M1 m q ≤ W (dropC p c) q := (ih (dropC p c) hr q hqr).2 m (mids_iff.mpr ⟨hmr, b⟩)
          rw [if_pos hmr, if_pos hqr]
          omega
        · rw [if_neg hmr]
          split <;> omega
      refine ⟨?_, upper⟩
      have u0 := upper m0 hm0
      by_cases hqr : q ∈ inn h (dropC p c)
      · obtain ⟨⟨m1, hm1, e1⟩, _⟩ := ih (dropC p c) hr q hqr
        have e1 : M2 (dropC p c) m1 + M1 m1 q = W (dropC p c) q := e1
        obtain ⟨a1, b1⟩ := mids_iff.mp hm1
        have hm1p : m1 ∈ mids h p q := mids_iff.mpr ⟨inn_drop a1, b1⟩
        have u1 := upper m1 hm1p
        rcases Int.le_total (W (dropC p c) q) (W p q - lessN p (dropC p c)) with l | l
        · refine ⟨m0, hm0, ?_⟩
          show led h M2 (.call c) p m0 + M1 m0 q = _
          rw [led_call, led_call, if_pos hqr] at u0 ⊢
          omega
        · refine ⟨m1, hm1p, ?_⟩
          show led h M2 (.call c) p m1 + M1 m1 q = _
          rw [led_call, led_call, if_pos hqr, if_pos a1] at u1 ⊢
          omega
      · refine ⟨m0, hm0, ?_⟩
        show led h M2 (.call c) p m0 + M1 m0 q = _
        rw [led_call, led_call, if_neg hqr] at u0 ⊢
        omega
theorem brf_congr {M M' : List Str → List Str → Int} (hM : ∀ p ∈ bsets h, ∀ q ∈ inn h p, M p q = M' p q) : brfD h M = brfD h M' := by
  refine congrArg Dat.dict (List.map_congr_left fun p hp => ?_)
  refine congrArg (Prod.mk (tS p)) (congrArg Dat.dict (List.map_congr_left fun q hq => ?_))
  rw [hM p hp q hq]
theorem joinOk (ok : HouseOk h) (hn : Nest h) : JoinOk h := fun s1 s2 h1 h2 => brf_congr fun p hp q hq => mxI_eq (join_mx ok hn h1 s2 h2 p hp q hq)
theorem filterOne {k : Str} : ∀ {p : List Str}, p.Nodup → k ∈ p → p.filter (fun o => decide (o = k)) = [k]
  | [], _, h => absurd h List.not_mem_nil
  | a :: p, nd, hk => by
    obtain ⟨n1, n2⟩ := List.nodup_cons.mp nd
    by_cases e : a = k
    · subst e
      rw [List.filter_cons_of_pos (by simp)]
      refine congrArg _ (List.filter_eq_nil_iff.mpr fun o ho => ?_)
      have : o ≠ a := fun e => n1 (e ▸ ho)
      simpa using this
    · have hk' : k ∈ p := by
        rcases List.mem_cons.mp hk with z | z
        · exact absurd z.symm e
        · exact z
      rw [List.filter_cons_of_neg (by simpa using e)]
      exact filterOne n2 hk'
theorem hlaw (ok : HouseOk h) (hn : Nest h) : HLaw h where
  calls := callsOk ok hn
  join := joinOk ok hn
  acts := by
    refine ⟨lbK h, lbOk ok, fun st am hst ha k hk => ?_⟩
    obtain ⟨lb1, lb2, lb3⟩ := lbOk ok k hk
    have a1 : actC h (ledAll h st) am (lbK h k) = sm (st.foldl doA am) (lbK h k) := mxI_eq (acts_sum ok hn ha st hst (lbK h k) lb2)
    have a2 : actC h (ledAll h st) am (lessK (lbK h k) k) = sm (st.foldl doA am) (lessK (lbK h k) k) := mxI_eq (acts_sum ok hn ha st hst (lessK (lbK h k) k) lb3)
    rw [a1, a2]
    have sp := sm_split (st.foldl doA am) (fun o => decide (o = k)) (lbK h k)
    rw [filterOne (bset_nd ok.nd lb2) (lb1.has k List.mem_cons_self)] at sp
    have e : (lbK h k).filter (fun o => !decide (o = k)) = lessK (lbK h k) k := rfl
    rw [e] at sp
    have one : sm (st.foldl doA am) [k] = st.foldl doA am k := by
      show ([k].map (st.foldl doA am)).sum = _
      simp
    omega
end
end K94
end

/-! text HG -/
section
set_option Elab.async false
set_option autoImplicit false
set_option linter.all false
set_option maxRecDepth 100000
set_option maxHeartbeats 1000000
/-! the head: the law's promise at the heap behind the top -/
namespace K94
open PySem PySem.Spec PyProof.Rows L2
theorem lawAt {P : Program} {w : World} {K : PySem.W.Frag} {mg mb : Str → Option Value} {k : Nat} {fa a : Addr} {fd : FuncData} {s1 : Shared} {vs : List Value} {ns : List Int}
    (KX : K.In s1.heap) (hm : s1.heap.Ns mainGlobals mg) (hb : s1.heap.Ns builtinsNs mb) (bo : ∀ x : Str, x ≠ "__name__" → mb x = bootBuiltins x) (lim : s1.heap.NoLimit) (hg : s1.gens = #[])
    (ha : s1.heap.get? a = some { cls := .type "list", data := .seq vs.toArray }) (hi : IntsAre vs ns) (hl : ns.length ≤ sizeLine) (hr : Room k callerA)
    (F : ∀ base : Heap, K.In base → base.Ns mainGlobals mg → FnG P w K mg base k fa fd ["_law_script"] (LawSp K)) (bind : ∀ (s : Shared) (u : Value), BindsTo s fd ⟨[u], []⟩ [("_law_script", u)]) :
    codeAny (model P w) callerA (.call (.ref fa) ⟨[.ref a], []⟩) (fun r s' => r = .ok (.ret (.bool true)) ∧ OldK s1.heap s'.heap ∧ s'.os = s1.os ∧ AllBare s'.gens) s1 := by
  have rv := vals_ints hi
  have lenV := hi.length
  -- H holds the script, or nothing
  have main : ∀ H : Hp, Only H → SqL K H a (ns.map V.int) → HOk P w H s1.heap → (∀ b, H b ≠ none → b = a) → (H a ≠ none → K.lookup a = none) →
      codeAny (model P w) callerA (.call (.ref fa) ⟨[.ref a], []⟩) (fun r s' => r = .ok (.ret (.bool true)) ∧ OldK s1.heap s'.heap ∧ s'.os = s1.os ∧ AllBare s'.gens) s1 := fun H only sq hok onlyA notK => by
    have free : ∀ {b : Addr} {o : Obj}, s1.heap.get? b = some o → (b = a → False) → H b = none := fun {b o} e ne => by
      cases q : H b with
      | none => rfl
      | some u => exact (ne (onlyA b (by rw [q]; simp))).elim
    have hide : ∀ {b : Addr} {o : Obj}, s1.heap.get? b = some o → H b = none → (hidT s1.heap H).get? b = some o := fun e n => hidT_get e n
    have ns' : ∀ {b : Addr} {m : Str → Option Value}, s1.heap.Ns b m → (hidT s1.heap H).Ns b m := fun {b m} ⟨o, es, ep, e, d, r⟩ => by
      refine ⟨o, es, ep, hide e (free e fun eb => ?_), d, r⟩
      subst eb
      rw [ha] at e
      cases e
      have d' : Data.seq vs.toArray 0 = Data.dict es ep := d
      cases d'
    have kIn : K.In (hidT s1.heap H) := fun b o e => by
      refine hide (KX b o e) ?_
      cases q : H b with
      | none => rfl
      | some u =>
        have eb := onlyA b (by rw [q]; simp)
        subst eb
        rw [notK (by rw [q]; simp)] at e
        cases e
    have md : Mod K mg (hidT s1.heap H) := ⟨kIn, ns' hm, ⟨mb, ns' hb, bo⟩, let ⟨mc, h1, h2⟩ := lim; ⟨mc, ns' h1, h2⟩⟩
    have env : Env0 P w K mg (hidT s1.heap H) callerA [] s1 H := ⟨rfl, md, fun b o e => of_hidT e, Nat.le_of_eq (hidT_size _ _), trivial, fun b hb => absurd (show b ∈ ([] : List Addr) from hb) (by simp), hok, .of_eq hg⟩
    have call := (F _ kIn (ns' hm)).runs callerA [] s1 H ⟨[.ref a], []⟩ [.ref a] [.ref a] (fun v _ => v = .bl true) hr rfl env (bind s1 (.ref a)) (.cons rfl .nil) ⟨a, ns, rfl, sq, fun _ => rfl⟩
    refine codeAny_mono call fun r s' told => ?_
    cases r with
    | error e => exact (show False from told).elim
    | ok fl =>
      cases fl with
      | next => exact (show False from told).elim
      | brk => exact (show False from told).elim
      | cont => exact (show False from told).elim
      | ret u =>
        obtain ⟨v, H', os, bare, un, hok', r', q⟩ := told
        have q' : v = .bl true := q
        subst q'
        have eu : u = Value.bool true := r'
        subst eu
        refine ⟨rfl, OldK.of_keep fun b o e => ?_, os, bare⟩
        cases qb : H b with
        | none => exact un.keep b o e qb (fun z => absurd (show b ∈ ([] : List Addr) from z) List.not_mem_nil) (fun z => absurd z List.not_mem_nil)
        | some u =>
          rcases only b with z | ⟨ox, xs, z⟩
          · rw [qb] at z; cases z
          · have z' := un.frzs b ox _ z
            obtain ⟨g1, _⟩ := hok b _ z
            obtain ⟨g2, _⟩ := hok' b _ z'
            rw [e] at g1
            cases g1
            exact g2
  cases hk : K.lookup a with
  | some o =>
    have e := KX a o hk
    rw [ha] at e
    cases e
    exact main (fun _ => none) (fun _ => .inl rfl) (.inr ⟨_, vs.toArray, _, hk, rfl, rfl, rfl, by rw [List.size_toArray, lenV]; exact hl, by simpa using rv⟩) (fun b u z => nomatch (show (none : Option HO) = some u from z)) (fun b z => absurd rfl z) (fun z => absurd rfl z)
  | none =>
    refine main (fun b => if b = a then some (.frz { cls := .type "list", data := .seq vs.toArray } (.lst (ns.map V.int))) else none) (fun b => ?_) (.inl (.inr ⟨_, if_pos rfl⟩)) (fun b u z => ?_) (fun b z => ?_) (fun _ => hk)
    · by_cases hb : b = a
      · exact .inr ⟨_, _, if_pos hb⟩
      · exact .inl (if_neg hb)
    · by_cases hb : b = a
      · subst hb
        have z' := (if_pos rfl).symm.trans z
        cases z'
        exact ⟨ha, by rw [List.length_map]; exact hl, vs, _, rv, ha⟩
      · have z' := (if_neg hb).symm.trans z
        cases z'
    · by_cases hb : b = a
      · exact hb
      · exact absurd (if_neg hb) z
/-- the law, walked, keeps its row -/
theorem walkAt {l : PySem.W.OpenLaw} {n k : Nat} {q : Program} {loose : List Str} {XP : (Str → Option Value) → Heap → Prop} {YP : World → Heap → Prop} {d : DefRec}
    (hn : l.most = some n) (hn2 : n ≤ sizeLine) (hdf : d.params.defaults = []) (hr : Room k callerA)
    (F : ∀ (w : World) (mg : Str → Option Value) (fa : Addr) (h : Heap), YP w h → h.Ns mainGlobals mg → mg d.name = some (.ref fa) →
      ∃ (K : PySem.W.Frag) (fd : FuncData), K.In h ∧ (∀ (s : Shared) (u : Value), BindsTo s fd ⟨[u], []⟩ [("_law_script", u)]) ∧ ∀ base : Heap, K.In base → base.Ns mainGlobals mg → FnG l.prog w K mg base k fa fd ["_law_script"] (LawSp K)) :
    PySem.W.WalkO q loose XP YP l.row.toRowW d [] (fun f vs => PySem.call f vs) := by
  refine Att.attach_call hn hdf fun w s0 s1 mg mb fa o pm cd doc a vs ns G Y ho hd hcd hmg hobj hints hlen hg => ?_
  obtain ⟨K, fd, KX, hb, hF⟩ := F w mg fa _ Y G.T.g hmg
  exact lawAt KX G.T.g G.T.b G.T.builtins G.T.nolimit hg hobj hints (Nat.le_trans hlen hn2) hr hF hb
end K94
end

/-! text HI -/
section
set_option Elab.async false
set_option autoImplicit false
set_option linter.all false
set_option maxRecDepth 100000
set_option maxHeartbeats 2000000
/-! the head: each def's promise; the law's row holds -/
namespace K94
open PySem PySem.Spec PyProof.Rows L2
theorem std {K : PySem.W.Frag} {h : Heap} {mg : Str → Option Value} (X : K.In h) (G : h.Ns mainGlobals mg) (c : He.SaysD fa fn K) {x : Str} {i j : Nat} (h1 : fn[j]? = some (dF x i)) (h2 : fa[j]? = some (.glo x)) : Stands K mg x (top i) := by
  obtain ⟨fd, F⟩ := c.def_ j h1
  exact ⟨_, fd, F, He.glo_ok X G (c.fact j h2)⟩
theorem stdM {K : PySem.W.Frag} {h : Heap} {mg : Str → Option Value} (X : K.In h) (G : h.Ns mainGlobals mg) (c : He.SaysD fa fn K) {m q : Str} {i j k : Nat} (h1 : fn[j]? = some (dM m q i)) (h2 : fa[k]? = some (.meth "Store" m)) : StandsM K (He.ga K "Store") m q (mst i) := by
  obtain ⟨fd, F⟩ := c.def_ j h1
  exact ⟨_, fd, F, He.meth_ok (c.fact k h2)⟩
theorem slotOf {K : PySem.W.Frag} {x : Str} {i : Nat} (h : slB K x i = true) (hi : i < 1000) : ∃ p, SlX.Slot1 K (He.ga K "Store") x p i := by
  obtain ⟨a, h⟩ := He.ba h
  obtain ⟨b, h⟩ := He.ba h
  obtain ⟨d, h⟩ := He.ba h
  obtain ⟨e, f⟩ := He.ba h
  exact ⟨_, He.eqO_ok a, He.eqO_ok b, of_decide_eq_true d, of_decide_eq_true e, of_decide_eq_true f, hi⟩
theorem stcOf {K : PySem.W.Frag} (h : xok K = true) : StC K (He.ga K "Store") := by
  obtain ⟨_, h⟩ := He.ba h
  obtain ⟨hc, h⟩ := He.ba h
  obtain ⟨h0, h⟩ := He.ba h
  obtain ⟨h1, h⟩ := He.ba h
  obtain ⟨h2, h3⟩ := He.ba h
  obtain ⟨c1, hc⟩ := He.ba hc
  obtain ⟨c2, hc⟩ := He.ba hc
  obtain ⟨c3, c4⟩ := He.ba hc
  exact ⟨⟨c1, c2, c3, He.eqO_ok c4⟩, slotOf h0 (by decide), slotOf h1 (by decide), slotOf h2 (by decide), slotOf h3 (by decide)⟩
theorem smOf {K : PySem.W.Frag} (h : xok K = true) : ∃ o, K.lookup sysModules = some o ∧ o.cls = .type "dict" := by
  obtain ⟨h, _⟩ := He.ba h
  unfold smB at h
  cases e : K.lookup sysModules with
  | none => rw [e] at h; cases h
  | some o => rw [e] at h; exact ⟨o, rfl, of_decide_eq_true h⟩
theorem lawFacts {P : Program} {w : World} {K : PySem.W.Frag} {h : Heap} {mg : Str → Option Value} {fa0 : Addr} (X : K.In h) (G : h.Ns mainGlobals mg) (c : He.SaysD fa fn K) (xk : xok K = true) (hfa : mg ("law" : Str) = some (.ref fa0)) :
    ∃ fd : FuncData, (∀ (s : Shared) (u : Value), BindsTo s fd ⟨[u], []⟩ [("_law_script", u)]) ∧ ∀ base : Heap, K.In base → base.Ns mainGlobals mg → FnG P w K mg base 11 fa0 fd ["_law_script"] (LawSp K) := by
  obtain ⟨fd, F⟩ := c.def_ 62 (d := dF "law" 85) rfl
  have e := hfa.symm.trans (He.glo_ok X G (c.fact 62 (f := .glo "law") rfl))
  cases e
  have b := FunD.bindsA (ps := ["_law_script"]) F fun _ _ _ _ _ _ us hl => match us, hl with | [_], _ => rfl
  refine ⟨fd, fun s v => b s [v] rfl, fun base _ _ => ?_⟩
  have cs : StC K (He.ga K "Store") := stcOf xk
  have B : Bs K mg := by
    refine ⟨smOf xk, fun x hx => ?_⟩
    simp only [List.mem_cons, List.not_mem_nil, or_false] at hx
    rcases hx with rfl | rfl | rfl | rfl | rfl | rfl | rfl | rfl | rfl | rfl | rfl | rfl | rfl | rfl | rfl | rfl | rfl | rfl | rfl
    · exact He.free_ok X G (c.fact 69 (f := .free "all") rfl)
    · exact He.free_ok X G (c.fact 70 (f := .free "any") rfl)
    · exact He.free_ok X G (c.fact 71 (f := .free "sum") rfl)
    · exact He.free_ok X G (c.fact 72 (f := .free "max") rfl)
    · exact He.free_ok X G (c.fact 73 (f := .free "min") rfl)
    · exact He.free_ok X G (c.fact 74 (f := .free "abs") rfl)
    · exact He.free_ok X G (c.fact 75 (f := .free "int") rfl)
    · exact He.free_ok X G (c.fact 76 (f := .free "len") rfl)
    · exact He.free_ok X G (c.fact 77 (f := .free "tuple") rfl)
    · exact He.free_ok X G (c.fact 78 (f := .free "list") rfl)
    · exact He.free_ok X G (c.fact 79 (f := .free "dict") rfl)
    · exact He.free_ok X G (c.fact 80 (f := .free "set") rfl)
    · exact He.free_ok X G (c.fact 81 (f := .free "str") rfl)
    · exact He.free_ok X G (c.fact 82 (f := .free "sorted") rfl)
    · exact He.free_ok X G (c.fact 83 (f := .free "repr") rfl)
    · exact He.free_ok X G (c.fact 84 (f := .free "range") rfl)
    · exact He.free_ok X G (c.fact 85 (f := .free "enumerate") rfl)
    · exact He.free_ok X G (c.fact 86 (f := .free "zip") rfl)
    · exact He.free_ok X G (c.fact 87 (f := .free "isinstance") rfl)
  have S : Gs mg := ⟨He.str_ok X G (c.fact 88 (f := .str "PUT" "put") rfl), He.str_ok X G (c.fact 89 (f := .str "SIGNS" abc) rfl), He.str_ok X G (c.fact 90 (f := .str "LETTERS" abc) rfl), He.int_ok X G (c.fact 91 (f := .int "MOST_SIGNS" 6) rfl), He.int_ok X G (c.fact 92 (f := .int "MOST_KINDS" 6) rfl), He.int_ok X G (c.fact 93 (f := .int "MOST_CALLS" 8) rfl)⟩
  have sm_put : StandsM K (He.ga K "Store") "put" "Store.put" (mst 2) := stdM X G c (j := 64) (k := 65) rfl rfl
  have sm_first_of : StandsM K (He.ga K "Store") "first_of" "Store.first_of" (mst 3) := stdM X G c (j := 65) (k := 66) rfl rfl
  have sm_take : StandsM K (He.ga K "Store") "take" "Store.take" (mst 4) := stdM X G c (j := 66) (k := 67) rfl rfl
  have sm_amounts : StandsM K (He.ga K "Store") "amounts" "Store.amounts" (mst 7) := stdM X G c (j := 67) (k := 68) rfl rfl
  have h_within := okWithin (P := P) (w := w) (base := base) B (std X G c (x := "within") (i := 2) (j := 0) rfl rfl)
  have h_kinds_ahead := okAhead (P := P) (w := w) (base := base) B (std X G c (x := "kinds_ahead") (i := 3) (j := 1) rfl rfl)
  have h_least_beginning := okLeast (P := P) (w := w) (base := base) B (std X G c (x := "least_beginning") (i := 4) (j := 2) rfl rfl) h_kinds_ahead
  have h_all_sets := okAll (P := P) (w := w) (base := base) B (std X G c (x := "all_sets") (i := 5) (j := 3) rfl rfl)
  have h_beginning_sets := okBeg (P := P) (w := w) (base := base) B (std X G c (x := "beginning_sets") (i := 6) (j := 4) rfl rfl) h_kinds_ahead h_all_sets h_within
  have h_count_in := okCnt (P := P) (w := w) (base := base) B (std X G c (x := "count_in") (i := 7) (j := 5) rfl rfl)
  have h_counts_of := okCnts (P := P) (w := w) (base := base) B (std X G c (x := "counts_of") (i := 8) (j := 6) rfl rfl) h_beginning_sets h_count_in
  have h_amounts_of := okAms (P := P) (w := w) (base := base) B (std X G c (x := "amounts_of") (i := 9) (j := 7) rfl rfl) h_least_beginning
  have h_behind := okBehind (P := P) (w := w) (base := base) B (std X G c (x := "behind") (i := 18) (j := 8) rfl rfl)
  have h_forks_between := okBtw (P := P) (w := w) (base := base) B (std X G c (x := "forks_between") (i := 19) (j := 9) rfl rfl) h_behind
  have h_forks_of := okForks (P := P) (w := w) (base := base) B (std X G c (x := "forks_of") (i := 20) (j := 10) rfl rfl) h_forks_between
  have h_need_nested := okNeed (P := P) (w := w) (base := base) B (std X G c (x := "need_nested") (i := 21) (j := 11) rfl rfl) h_forks_of
  have h_sets_within := okSw (P := P) (w := w) (base := base) B (std X G c (x := "sets_within") (i := 24) (j := 12) rfl rfl) h_within
  have h_no_brief := okNb (P := P) (w := w) (base := base) B (std X G c (x := "no_brief") (i := 25) (j := 13) rfl rfl)
  have h_led_on := okLed (P := P) (w := w) (base := base) B (std X G c (x := "led_on") (i := 26) (j := 14) rfl rfl) S.pt
  have h_joined_by := okJb (P := P) (w := w) (base := base) B (std X G c (x := "joined_by") (i := 27) (j := 15) rfl rfl)
  have h_inner_sets := okIs (P := P) (w := w) (base := base) B (std X G c (x := "inner_sets") (i := 28) (j := 16) rfl rfl) h_need_nested h_beginning_sets h_sets_within
  have h_brief_of := okBr (P := P) (w := w) (base := base) B (std X G c (x := "brief_of") (i := 29) (j := 17) rfl rfl) h_inner_sets h_no_brief h_led_on
  have h_joined := okJ (P := P) (w := w) (base := base) B (std X G c (x := "joined") (i := 30) (j := 18) rfl rfl) h_inner_sets h_joined_by
  have h_acted_by := okAb (P := P) (w := w) (base := base) B (std X G c (x := "acted_by") (i := 31) (j := 19) rfl rfl) h_inner_sets h_counts_of h_amounts_of
  have h_taken_kind := okTk (P := P) (w := w) (base := base) B (std X G c (x := "taken_kind") (i := 34) (j := 20) rfl rfl)
  have h_do_deed := okDd (P := P) (w := w) (base := base) B (std X G c (x := "do_deed") (i := 35) (j := 21) rfl rfl) h_taken_kind
  have h_acted := okAct (P := P) (w := w) (base := base) B (std X G c (x := "acted") (i := 36) (j := 22) rfl rfl) h_do_deed
  have h_stretch_of := okSt (P := P) (w := w) (base := base) B (std X G c (x := "stretch_of") (i := 37) (j := 23) rfl rfl)
  have h_name_at := okNm (P := P) (w := w) (base := base) B (std X G c (x := "name_at") (i := 38) (j := 24) rfl rfl) S.si
  have h_log_of := okLg (P := P) (w := w) (base := base) B (std X G c (x := "log_of") (i := 39) (j := 25) rfl rfl) h_name_at
  have h_no_amounts := okNa (P := P) (w := w) (base := base) B (std X G c (x := "no_amounts") (i := 40) (j := 26) rfl rfl)
  have h_is_name := okIn (P := P) (w := w) (base := base) B (std X G c (x := "is_name") (i := 46) (j := 27) rfl rfl) S
  have h_is_tuple_of := okIt (P := P) (w := w) (base := base) B (std X G c (x := "is_tuple_of") (i := 47) (j := 28) rfl rfl)
  have h_are_names := okAn (P := P) (w := w) (base := base) B (std X G c (x := "are_names") (i := 48) (j := 29) rfl rfl) S h_is_name
  have h_in_order := okIo (P := P) (w := w) (base := base) B (std X G c (x := "in_order") (i := 49) (j := 30) rfl rfl)
  have h_is_part := okIp (P := P) (w := w) (base := base) B (std X G c (x := "is_part") (i := 50) (j := 31) rfl rfl) h_in_order
  have h_is_house := okIh (P := P) (w := w) (base := base) B (std X G c (x := "is_house") (i := 51) (j := 32) rfl rfl) S h_is_tuple_of h_are_names h_is_part
  have h_is_set := okIs2 (P := P) (w := w) (base := base) B (std X G c (x := "is_set") (i := 52) (j := 33) rfl rfl) h_is_part
  have h_is_kind := okIk (P := P) (w := w) (base := base) B (std X G c (x := "is_kind") (i := 53) (j := 34) rfl rfl)
  have h_is_call := okIc (P := P) (w := w) (base := base) B (std X G c (x := "is_call") (i := 54) (j := 35) rfl rfl) h_is_set
  have hm_put := okSp (P := P) (w := w) (base := base) B cs sm_put h_is_name h_is_kind
  have hm_first_of := okSf (P := P) (w := w) (base := base) B cs sm_first_of
  have hm_amounts := okSa (P := P) (w := w) (base := base) B cs sm_amounts
  have hm_take := okSk (P := P) (w := w) (base := base) B cs sm_take h_is_call hm_first_of
  have h_do_row := okDr (P := P) (w := w) (base := base) B cs (std X G c (x := "do_row") (i := 58) (j := 36) rfl rfl) hm_put hm_take
  have cl : Cl P w K mg base (He.ga K "Store") := by
    obtain ⟨fdI, FI⟩ := c.def_ 63 (d := dM "__init__" "Store.__init__" 1) rfl
    exact ⟨cs, He.glo_ok X G (c.fact 63 (f := .glo "Store") rfl), _, fdI, He.mkr_ok (c.fact 64 (f := .mkr "Store") rfl), okInit B cs _ fdI FI h_is_house, FunD.bindsN FI fun _ _ _ _ _ _ us hl => match us, hl with | [_, _], _ => rfl⟩
  have h_store_behind := okSb (P := P) (w := w) (base := base) B cl (std X G c (x := "store_behind") (i := 59) (j := 37) rfl rfl) h_do_row
  have h_told_by := okTo (P := P) (w := w) (base := base) B cl (std X G c (x := "told_by") (i := 60) (j := 38) rfl rfl) h_do_row
  have h_taken_by := okTb (P := P) (w := w) (base := base) B (std X G c (x := "taken_by") (i := 61) (j := 39) rfl rfl) h_told_by
  have h_amounts_at := okAa (P := P) (w := w) (base := base) B cl (std X G c (x := "amounts_at") (i := 62) (j := 40) rfl rfl) h_store_behind hm_amounts
  have h_served_at := okSv (P := P) (w := w) (base := base) B (std X G c (x := "served_at") (i := 63) (j := 41) rfl rfl) h_taken_by
  have h_law_take := okTake (P := P) (w := w) (base := base) B (std X G c (x := "_law_take") (i := 66) (j := 43) rfl rfl)
  have h_law_one := okOne (P := P) (w := w) (base := base) B (std X G c (x := "_law_one") (i := 67) (j := 44) rfl rfl) h_law_take
  have h_law_mixed := okMix (P := P) (w := w) (base := base) B (std X G c (x := "_law_mixed") (i := 68) (j := 45) rfl rfl) h_law_take
  have h_law_bag := okBag (P := P) (w := w) (base := base) B (std X G c (x := "_law_bag") (i := 65) (j := 42) rfl rfl)
  have h_law_alike := okAl (P := P) (w := w) (base := base) B (std X G c (x := "_law_alike") (i := 69) (j := 46) rfl rfl)
  have h_law_one_deed := okOd (P := P) (w := w) (base := base) B (std X G c (x := "_law_one_deed") (i := 80) (j := 57) rfl rfl)
  have h_law_walked := okWk (P := P) (w := w) (base := base) B (std X G c (x := "_law_walked") (i := 81) (j := 58) rfl rfl) h_law_one_deed
  have h_law_amounts := okLa (P := P) (w := w) (base := base) B (std X G c (x := "_law_amounts") (i := 73) (j := 50) rfl rfl) h_law_take h_law_one h_law_mixed
  have h_law_row_done := okRd (P := P) (w := w) (base := base) B (std X G c (x := "_law_row_done") (i := 78) (j := 55) rfl rfl)
  have h_law_played := okPl (P := P) (w := w) (base := base) B (std X G c (x := "_law_played") (i := 79) (j := 56) rfl rfl) h_law_row_done
  have h_law_cut := okCu (P := P) (w := w) (base := base) B (std X G c (x := "_law_cut") (i := 82) (j := 59) rfl rfl) h_law_take
  have h_law_put_together := okPt (P := P) (w := w) (base := base) B (std X G c (x := "_law_put_together") (i := 83) (j := 60) rfl rfl) h_law_take h_joined
  have h_law_stretch := okSr (P := P) (w := w) (base := base) B (std X G c (x := "_law_stretch") (i := 74) (j := 51) rfl rfl) h_law_take h_law_one
  have h_law_thing_names := okTn (P := P) (w := w) (base := base) B (std X G c (x := "_law_thing_names") (i := 75) (j := 52) rfl rfl) h_law_take
  have h_law_log_of := okLf (P := P) (w := w) (base := base) B (std X G c (x := "_law_log_of") (i := 76) (j := 53) rfl rfl) h_law_thing_names
  have h_law_plain_log := okPg (P := P) (w := w) (base := base) B (std X G c (x := "_law_plain_log") (i := 77) (j := 54) rfl rfl) h_law_stretch h_law_log_of
  have h_law_paths := okPa (P := P) (w := w) (base := base) B (std X G c (x := "_law_paths") (i := 71) (j := 48) rfl rfl) h_law_one h_law_mixed
  have h_law_named := okNd (P := P) (w := w) (base := base) B (std X G c (x := "_law_named") (i := 72) (j := 49) rfl rfl) h_law_take h_law_mixed
  have h_law_nested_house := okNh (P := P) (w := w) (base := base) B (std X G c (x := "_law_nested_house") (i := 70) (j := 47) rfl rfl) h_law_one h_law_paths h_law_named
  have h_law_kept_right := okKr (P := P) (w := w) (base := base) B cl (std X G c (x := "_law_kept_right") (i := 84) (j := 61) rfl rfl) h_law_cut h_stretch_of h_brief_of h_law_played h_law_alike h_law_put_together h_log_of h_law_amounts h_joined h_acted_by h_no_amounts h_amounts_at h_served_at h_acted h_law_walked hm_put hm_take hm_amounts
  exact okLaw B F (fun h ok hn => hlaw ok hn) h_law_bag h_law_one h_law_nested_house h_law_plain_log h_law_kept_right
end K94
open PySem PySem.W PySem.Calls PyProof.Rows
theorem PySem.Challenge.cw_calledbest_k94_whole_a_log_kept_by_brief_holds : PySem.Challenge.rw_calledbest_k94_whole_a_log_kept_by_brief.Holds := by
  w_on; o_law
  refine HandSHeadRun.head_any (r := OpenLaw.row PySem.Challenge.rw_calledbest_k94_whole_a_log_kept_by_brief) (q := view (OpenLaw.row PySem.Challenge.rw_calledbest_k94_whole_a_log_kept_by_brief).prog [85]) (H := K94.hk) (ob := K94.ob) (M := 4000) (loose := K94.looseN) (d := HandSHeadRun.topDef (OpenLaw.row PySem.Challenge.rw_calledbest_k94_whole_a_log_kept_by_brief).prog 85) (kwd := []) K94.ob_eq
    (by kernel_rfl) (fun s => by kernel_rfl) K94.run (by kernel_rfl) (by kernel_rfl) (by kernel_rfl) (by rfl) (by first | assumption | decide +kernel) (by decide +kernel) ⟨rfl, rfl, rfl, rfl, rfl, by decide +kernel⟩ ?hw ?hc
  case hw => w_witness2
  case hc =>
    refine K94.walkAt (l := PySem.Challenge.rw_calledbest_k94_whole_a_log_kept_by_brief) (n := 63) (k := 11) rfl (by decide) (by kernel_rfl) ⟨rfl, by decide, by decide⟩ ?F
    intro w mg fa h Y G hmg0
    obtain ⟨K, KX, c, xk⟩ := Y
    have hmg : mg ("law" : PySem.Str) = some (.ref fa) := by
      have e : (HandSHeadRun.topDef (OpenLaw.row PySem.Challenge.rw_calledbest_k94_whole_a_log_kept_by_brief).prog 85).name = ("law" : PySem.Str) := by kernel_rfl
      rw [← e]
      exact hmg0
    obtain ⟨fd, hb, hF⟩ := K94.lawFacts (P := (PySem.Challenge.rw_calledbest_k94_whole_a_log_kept_by_brief).prog) (w := w) KX G c xk hmg
    exact ⟨K, fd, KX, hb, hF⟩
end
