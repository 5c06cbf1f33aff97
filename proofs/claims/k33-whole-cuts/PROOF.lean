import PyProof.Rows.All
import Wide.All
import OpenK.AllK
import Wide.FinOn
import KE.KStateDown
import HandS.ForMost
import HandS.More
import HandS.Defaults
import HandS.Head0
import HandS.Head1
import HandS.Head2
import HandS.HeadEnd
import HandS.EndBits
import HandS.HeadHook1
import HandS.HeadHook2
import HandS.HeadHook3
import HandS.HeadHook4
import KE.KDictKeyed
import HandS.Star
import HandS.Walk
import HandS.Conv
import HandS.Deep
import HandS.Zip
import HandS.TupAny
import HandS.Style
import HandS.IsInst
import HandS.MakeKw
import KE.GoesEnum
import KE.GoesDict
import KE.KDictCopyH
import HandS.DictComp
import HandS.WideBits
import KE.KDictDisplayH
import HandS.Codes
import HandS.MakeKwOnly
import PySem.Challenge.RW_plainseams_k33_whole_cuts
section
set_option Elab.async false
set_option linter.all false
set_option maxRecDepth 100000
/-! HA: where each def stands; what the head is asked. Printed by asm.py. -/
namespace W3
open PySem PySem.Spec PyProof.Rows L2
def top (i : Nat) : Stmt := PySem.Challenge.pw_plainseams_k33_whole_cuts.main.body.getD i (.Pass ⟨0, 0, 0, 0⟩)
def clsBody : Stmt → List Stmt
  | .ClassDef (body := b) .. => b
  | _ => []
def meth (i j : Nat) : Stmt := (clsBody (top i)).getD j (.Pass ⟨0, 0, 0, 0⟩)
end W3
namespace Hd
open PySem PySem.Spec PyProof.Rows L2 W3
def dG (x : Str) (i : Nat) : He.DefD := ⟨(x, none), x, x, defArgs (top i), defBody (top i), defScope (top i), [], []⟩
def dM (c m q : Str) (i j : Nat) : He.DefD := ⟨(c, some m), m, q, defArgs (meth i j), defBody (meth i j), defScope (meth i j), [], []⟩
def fa0 : List He.Fa := [.free "len", .free "all", .free "sum", .free "min", .free "abs", .free "isinstance", .free "sorted", .free "int", .free "bool", .free "str", .free "tuple", .free "list", .free "dict", .free "range", .free "enumerate", .free "zip", .int "MOST_MARKS" 2, .int "MOST_SIGNS" 6, .int "MOST_CLASS" 2, .glo "FIRST", .glo "WAYS", .glo "Table", .glo "Safe", .glo "Broken", .cls "Table", .cls "Safe", .cls "Broken", .noat "Table" "classes", .noat "Table" "rows", .noat "Table" "closed"]
def fa1 : List He.Fa := [.noat "Safe" "standings", .noat "Safe" "seams", .noat "Broken" "one", .noat "Broken" "other", .glo "_law_draw", .glo "_law_cell_at", .glo "_law_digits", .glo "_law_pool", .glo "_law_take", .glo "_law_pick", .glo "_law_parts", .glo "is_number", .glo "are_classes", .glo "are_two", .glo "are_parts", .glo "are_closed", .mkr "Table", .glo "_law_made", .glo "_law_bare", .glo "_law_wrong_at", .glo "_law_all_texts", .glo "_law_text", .glo "check_table", .glo "check_way", .meth "Table" "__len__", .meth "Table" "check_sign", .meth "Table" "bare", .glo "wrong_at", .glo "check_text", .meth "Table" "joined"]
def fa2 : List He.Fa := [.glo "with_mark", .glo "held_back", .glo "read_bare", .glo "read_sign", .glo "made_plain", .glo "are_harmless", .glo "is_harmless", .glo "_law_ordered", .glo "_law_joined", .glo "_law_plain", .glo "_law_is_fine", .glo "standings_of", .glo "cut_at", .glo "is_even", .glo "seam_behind", .mkr "Safe", .mkr "Broken", .glo "judged", .glo "safe_starts", .glo "check_start", .glo "judge", .glo "is_safe", .glo "_law_fewest", .glo "soonest", .meth "Safe" "shows", .glo "is_tame", .meth "Broken" "shows", .glo "_law_held", .glo "_law_is_even", .glo "_law_read"]
def fa3 : List He.Fa := [.glo "_law_behind", .glo "_law_shows", .glo "_law_is_broken", .glo "_law_pieces_right", .glo "_law_start_right", .glo "law"]
def fa : List He.Fa := fa0 ++ fa1 ++ fa2 ++ fa3
def fn0 : List He.DefD := [dG "_law_draw" 46, dG "_law_cell_at" 47, dG "_law_digits" 48, dG "_law_pool" 50, dG "_law_take" 49, dG "_law_pick" 51, dG "_law_parts" 52, dG "is_number" 10, dG "are_classes" 11, dG "are_two" 12, dG "are_parts" 13, dG "are_closed" 14, dM "Table" "__init__" "Table.__init__" 15 0, dG "_law_made" 53, dG "_law_bare" 54, dG "_law_wrong_at" 56, dG "_law_all_texts" 64, dG "_law_text" 59, dG "check_table" 16, dG "check_way" 21, dM "Table" "__len__" "Table.__len__" 15 3, dM "Table" "check_sign" "Table.check_sign" 15 7, dM "Table" "bare" "Table.bare" 15 8, dG "wrong_at" 22, dG "check_text" 24, dM "Table" "joined" "Table.joined" 15 9, dG "with_mark" 26, dG "held_back" 25, dG "read_bare" 27, dG "read_sign" 28]
def fn1 : List He.DefD := [dG "made_plain" 29, dG "are_harmless" 32, dG "is_harmless" 40, dG "_law_ordered" 57, dG "_law_joined" 55, dG "_law_plain" 58, dG "_law_is_fine" 63, dG "standings_of" 30, dG "cut_at" 33, dG "is_even" 34, dG "seam_behind" 35, dM "Safe" "__init__" "Safe.__init__" 36 0, dM "Broken" "__init__" "Broken.__init__" 37 0, dG "judged" 39, dG "safe_starts" 44, dG "check_start" 38, dG "judge" 41, dG "is_safe" 42, dG "_law_fewest" 65, dG "soonest" 43, dM "Safe" "shows" "Safe.shows" 36 2, dG "is_tame" 23, dM "Broken" "shows" "Broken.shows" 37 2, dG "_law_held" 60, dG "_law_is_even" 67, dG "_law_read" 61, dG "_law_behind" 66, dG "_law_shows" 68, dG "_law_is_broken" 69, dG "_law_pieces_right" 70]
def fn2 : List He.DefD := [dG "_law_start_right" 71, dG "law" 72]
def fn : List He.DefD := fn0 ++ fn1 ++ fn2
/-- the tuple at an address: nothing in it -/
def tup0 (K : PySem.W.Frag) (a : Addr) : Bool := match K.lookup a with
  | some ⟨.type c, _, .seq its _, _⟩ => decide (c = "tuple") && decide (its.toList = [])
  | _ => false
/-- FIRST's second item -/
def fst2 (K : PySem.W.Frag) : Addr := match K.lookup (He.ga K "FIRST") with
  | some ⟨_, _, .seq its _, _⟩ => (match its.toList with
    | [_, .ref a] => a
    | _ => 0)
  | _ => 0
def firstB (K : PySem.W.Frag) : Bool := He.tupB K "FIRST" [.non, .adr fst2] && tup0 K (fst2 K)
def isiB (K : PySem.W.Frag) (x : Str) : Bool := He.eqO (PySem.W.findIn K (.ref (He.ga K x)) "__class__") (some (some (.builtin "object.__class__"))) && (He.eqO (PySem.W.specialIn K (.builtin "object.__class__") "__get__") (some (some (.builtin "getset_descriptor.__get__"))) && (decide (PySem.W.takesIn K (.builtin "object.__class__") = some true) && decide (PySem.W.mroIn K (He.ga K x) (.type "object") = some true)))
def ex (K : PySem.W.Frag) : Bool := He.tupB K "WAYS" [.str "apart", .str "joined"] && (firstB K && (isiB K "Table" && (isiB K "Safe" && (isiB K "Broken" && (decide (PySem.W.kitOne K (.ref (He.ga K "Safe")) (.ref (He.ga K "Broken")) = some false) && decide (PySem.W.kitOne K (.ref (He.ga K "Broken")) (.ref (He.ga K "Safe")) = some false))))))
end Hd
end
section
set_option Elab.async false
set_option linter.all false
set_option maxRecDepth 100000
set_option maxHeartbeats 0
/-! HB: the head's run. -/
namespace Hd
open PySem PySem.Spec PyProof.Rows L2 W3
abbrev hRow : PySem.W.OpenRow := PySem.W.OpenLaw.row PySem.Challenge.rw_plainseams_k33_whole_cuts
abbrev hk : PySem.W.Hook := He.hookX 6 fa fn [] [] ex
def ob (s : PySem.W.SharedT) : He.AlX := He.obsX 6 fa fn [] [] ex (HandSHeadRun.getT s)
theorem ob_eq (s : PySem.W.SharedT) : ob s = hk.obs s.abs := He.obsX_eq (HandSHeadRun.getT_eq s)
def loose1 : List Str := [("_wall" : Str), ("SeamError" : Str), ("BadTable" : Str), ("BadSign" : Str), ("BadWay" : Str), ("BadText" : Str), ("MOST_SIGNS" : Str), ("MOST_CLASS" : Str), ("is_number" : Str), ("are_classes" : Str), ("are_two" : Str), ("are_parts" : Str), ("are_closed" : Str), ("Table" : Str), ("check_table" : Str), ("FIRST" : Str), ("WAYS" : Str), ("MOST_MARKS" : Str), ("check_way" : Str), ("wrong_at" : Str)]
def loose2 : List Str := [("is_tame" : Str), ("check_text" : Str), ("held_back" : Str), ("with_mark" : Str), ("read_bare" : Str), ("read_sign" : Str), ("made_plain" : Str), ("standings_of" : Str), ("are_harmless" : Str), ("cut_at" : Str), ("is_even" : Str), ("seam_behind" : Str), ("Safe" : Str), ("Broken" : Str), ("check_start" : Str), ("judged" : Str), ("is_harmless" : Str), ("judge" : Str), ("is_safe" : Str), ("soonest" : Str)]
def loose3 : List Str := [("safe_starts" : Str), ("_law_draw" : Str), ("_law_cell_at" : Str), ("_law_digits" : Str), ("_law_take" : Str), ("_law_pool" : Str), ("_law_pick" : Str), ("_law_parts" : Str), ("_law_made" : Str), ("_law_bare" : Str), ("_law_joined" : Str), ("_law_wrong_at" : Str), ("_law_ordered" : Str), ("_law_plain" : Str), ("_law_text" : Str), ("_law_held" : Str), ("_law_read" : Str), ("_law_standings" : Str), ("_law_is_fine" : Str), ("_law_all_texts" : Str)]
def loose4 : List Str := [("_law_fewest" : Str), ("_law_behind" : Str), ("_law_is_even" : Str), ("_law_shows" : Str), ("_law_is_broken" : Str), ("_law_pieces_right" : Str), ("_law_start_right" : Str)]
abbrev loose : List Str := loose1 ++ loose2 ++ loose3 ++ loose4
theorem run (w : World) : HandSHeadRun.RunEq hRow (PySem.W.view hRow.prog [72]) hk ob 20000 loose w := by
  intro os
  kernel_rfl
end Hd
end
section
set_option Elab.async false
set_option linter.all false
set_option maxRecDepth 100000
set_option maxHeartbeats 2000000
/-! LA: data, what stands for them in the heap, forward judgements. -/
namespace W3
open PySem PySem.Spec PyProof.Rows L2

/-- data: what a value is, its whole content told -/
inductive D where
  | non | bl (b : Bool) | int (i : Int) | str (x : Str)
  | tup (ds : List D)
  /-- a tuple without a dict of its own, its object known -/
  | ptup (ds : List D)
  | lst (ds : List D)
  /-- a dict by ints, a dict by nested tuples (both locked) -/
  | dk (kvs : List (Int × D)) | dn (kvs : List (NestedKey × D))
  /-- such dicts while they may be read alone -/
  | dj (kvs : List (Int × D)) | dm (kvs : List (NestedKey × D))
  /-- an instance that changes no more -/
  | ob (C : Addr) (fs : List (Str × D))
  /-- some list of ints, whichever -/
  | dr
  /-- the script -/
  | scr (ns : List Int)

mutual
def ofK : NestedKey → D
  | .none => .non
  | .num i => .int i
  | .text x => .str x
  | .tup ks => .tup (ofKs ks)
def ofKs : List NestedKey → List D
  | [] => []
  | k :: ks => ofK k :: ofKs ks
end
theorem ofKs_map : ∀ ks : List NestedKey, ofKs ks = ks.map ofK
  | [] => rfl
  | k :: ks => by rw [ofKs, ofKs_map ks]; rfl

/-- a dict by nested keys as the abstract heap has it: the key, its tuple's address, the value -/
abbrev Raw := List (NestedKey × Addr × V)
def ndRel (raw : Raw) (xs : List (NestedKey × Addr × Value)) : Prop := Paired (fun (p : NestedKey × Addr × V) (q : NestedKey × Addr × Value) => p.1 = q.1 ∧ p.2.1 = q.2.1 ∧ RelV p.2.2 q.2.2) raw xs
/-- at a stands an exact dict with these entries -/
def ndAt (P : Program) (w : World) (a : Addr) (raw : Raw) (h : Heap) : Prop :=
  raw.length ≤ sizeLine ∧ ∃ xs : List (NestedKey × Addr × Value), ndRel raw xs ∧
    ∃ o es ep, h.get? a = some o ∧ o.ExactDict ∧ o.data = .dict es ep ∧ es.toList = xs.map (entryOfKey (nestedKind P w)) ∧ (xs.map (·.1)).Nodup
def nd (P : Program) (w : World) (a : Addr) (raw : Raw) : HO := .ext (ndAt P w a raw)
/-- some list of ints -/
def anyAt (a : Addr) (h : Heap) : Prop := ∃ (ns : List Int) (its : List Value) (n : Nat), ns.length ≤ sizeLine ∧ Vals (ns.map V.int) its ∧ h.get? a = some { cls := .type "list", data := .seq its.toArray n }
def anyL (a : Addr) : HO := .ext (anyAt a)

section
variable (P : Program) (w : World) (K : PySem.W.Frag) (F : Hp)
mutual
inductive Rep : D → V → Prop
  | non : Rep .non .non
  | bl (b : Bool) : Rep (.bl b) (.bl b)
  | int (i : Int) : Rep (.int i) (.int i)
  | str (x : Str) : Rep (.str x) (.str x)
  | tup {a : Addr} {vs : List V} {ds : List D} (h : SqT K F a vs) (r : Reps ds vs) : Rep (.tup ds) (.ref a)
  | ptup {a : Addr} {o : Obj} {vs : List V} {ds : List D} (h : F a = some (.frz o (.tup vs))) (ho : o.dict = none) (r : Reps ds vs) : Rep (.ptup ds) (.ref a)
  | lst {a : Addr} {vs : List V} {ds : List D} (h : F a = some (.lst vs)) (r : Reps ds vs) : Rep (.lst ds) (.ref a)
  | dk {a : Addr} {o : Obj} {kvs : List (Key × V)} {xs : List (Int × D)} (h : F a = some (.frz o (.dK kvs))) (r : RepK xs kvs) : Rep (.dk xs) (.ref a)
  | dn {a : Addr} {o : Obj} {raw : Raw} {xs : List (NestedKey × D)} (h : F a = some (.frz o (nd P w a raw))) (hs : (a == sysModules) = false) (r : RepN xs raw) : Rep (.dn xs) (.ref a)
  | dj {a : Addr} {kvs : List (Key × V)} {xs : List (Int × D)} (h : F a = some (.dK kvs)) (r : RepK xs kvs) : Rep (.dj xs) (.ref a)
  | dm {a : Addr} {raw : Raw} {xs : List (NestedKey × D)} (h : F a = some (nd P w a raw)) (hs : (a == sysModules) = false) (r : RepN xs raw) : Rep (.dm xs) (.ref a)
  | ob {a C dx : Addr} {fs : List (Str × V)} {xs : List (Str × D)} (h : F a = some (.ins C dx fs)) (r : RepF xs fs) : Rep (.ob C xs) (.ref a)
  | dr {a : Addr} (h : F a = some (anyL a)) : Rep .dr (.ref a)
  | scr {a : Addr} {ns : List Int} (h : SqL K F a (ns.map V.int)) (l : ns.length ≤ 63) : Rep (.scr ns) (.ref a)
inductive Reps : List D → List V → Prop
  | nil : Reps [] []
  | cons {d : D} {v : V} {ds : List D} {vs : List V} (h : Rep d v) (t : Reps ds vs) : Reps (d :: ds) (v :: vs)
inductive RepK : List (Int × D) → List (Key × V) → Prop
  | nil : RepK [] []
  | cons {i : Int} {d : D} {v : V} {xs : List (Int × D)} {kvs : List (Key × V)} (h : Rep d v) (t : RepK xs kvs) : RepK ((i, d) :: xs) ((.inl i, v) :: kvs)
inductive RepN : List (NestedKey × D) → Raw → Prop
  | nil : RepN [] []
  | cons {k : NestedKey} {d : D} {a : Addr} {v : V} {xs : List (NestedKey × D)} {raw : Raw} (hk : Rep (ofK k) (.ref a)) (hd : k.depth ≤ 8) (h : Rep d v) (t : RepN xs raw) : RepN ((k, d) :: xs) ((k, a, v) :: raw)
inductive RepF : List (Str × D) → List (Str × V) → Prop
  | nil : RepF [] []
  | cons {f : Str} {d : D} {v : V} {xs : List (Str × D)} {fs : List (Str × V)} (h : Rep d v) (t : RepF xs fs) : RepF ((f, d) :: xs) ((f, v) :: fs)
end
end

theorem Same.tupS {K : PySem.W.Frag} {H H' : Hp} {a : Addr} {xs : List V} (e : Same H H') (h : SqT K H a xs) : SqT K H' a xs := by
  rcases h with (h | ⟨o, h⟩) | h
  · exact .inl (.inl (e _ _ h))
  · exact .inl (.inr ⟨o, e _ _ h⟩)
  · exact .inr h

section
variable {P : Program} {w : World} {K : PySem.W.Frag} {F F' H H' : Hp}
mutual
theorem Rep.mono (e : Same F F') : ∀ {d : D} {v : V}, Rep P w K F d v → Rep P w K F' d v
  | _, _, .non => .non
  | _, _, .bl b => .bl b
  | _, _, .int i => .int i
  | _, _, .str x => .str x
  | _, _, .tup h r => .tup (Same.tupS e h) (Reps.mono e r)
  | _, _, .ptup h ho r => .ptup (e _ _ h) ho (Reps.mono e r)
  | _, _, .lst h r => .lst (e _ _ h) (Reps.mono e r)
  | _, _, .dk h r => .dk (e _ _ h) (RepK.mono e r)
  | _, _, .dn h hs r => .dn (e _ _ h) hs (RepN.mono e r)
  | _, _, .dj h r => .dj (e _ _ h) (RepK.mono e r)
  | _, _, .dm h hs r => .dm (e _ _ h) hs (RepN.mono e r)
  | _, _, .ob h r => .ob (e _ _ h) (RepF.mono e r)
  | _, _, .dr h => .dr (e _ _ h)
  | _, _, .scr h l => .scr (Same.seq e h) l
theorem Reps.mono (e : Same F F') : ∀ {ds : List D} {vs : List V}, Reps P w K F ds vs → Reps P w K F' ds vs
  | _, _, .nil => .nil
  | _, _, .cons h t => .cons (Rep.mono e h) (Reps.mono e t)
theorem RepK.mono (e : Same F F') : ∀ {ds : List (Int × D)} {vs : List (Key × V)}, RepK P w K F ds vs → RepK P w K F' ds vs
  | _, _, .nil => .nil
  | _, _, .cons h t => .cons (Rep.mono e h) (RepK.mono e t)
theorem RepN.mono (e : Same F F') : ∀ {ds : List (NestedKey × D)} {vs : Raw}, RepN P w K F ds vs → RepN P w K F' ds vs
  | _, _, .nil => .nil
  | _, _, .cons hk hd h t => .cons (Rep.mono e hk) hd (Rep.mono e h) (RepN.mono e t)
theorem RepF.mono (e : Same F F') : ∀ {ds : List (Str × D)} {vs : List (Str × V)}, RepF P w K F ds vs → RepF P w K F' ds vs
  | _, _, .nil => .nil
  | _, _, .cons h t => .cons (Rep.mono e h) (RepF.mono e t)
end
theorem Rep.ptup_tup {ds : List D} {v : V} (h : Rep P w K F (.ptup ds) v) : Rep P w K F (.tup ds) v := by
  cases h with
  | ptup h ho r => exact .tup (.inl (.inr ⟨_, h⟩)) r
theorem Reps.length : ∀ {ds : List D} {vs : List V}, Reps P w K F ds vs → ds.length = vs.length
  | _, _, .nil => rfl
  | _, _, .cons _ t => congrArg Nat.succ (Reps.length t)
theorem RepK.length : ∀ {ds : List (Int × D)} {vs : List (Key × V)}, RepK P w K F ds vs → ds.length = vs.length
  | _, _, .nil => rfl
  | _, _, .cons _ t => congrArg Nat.succ (RepK.length t)
theorem RepN.length : ∀ {ds : List (NestedKey × D)} {vs : Raw}, RepN P w K F ds vs → ds.length = vs.length
  | _, _, .nil => rfl
  | _, _, .cons _ _ _ t => congrArg Nat.succ (RepN.length t)
theorem RepF.length : ∀ {ds : List (Str × D)} {vs : List (Str × V)}, RepF P w K F ds vs → ds.length = vs.length
  | _, _, .nil => rfl
  | _, _, .cons _ t => congrArg Nat.succ (RepF.length t)
theorem Reps.get : ∀ {ds : List D} {vs : List V} {i : Nat} {d : D}, Reps P w K F ds vs → ds[i]? = some d → ∃ v, vs[i]? = some v ∧ Rep P w K F d v
  | _, _, _, _, .nil, e => by simp at e
  | _, _, 0, _, .cons h _, e => by simp at e; subst e; exact ⟨_, rfl, h⟩
  | _, _, i + 1, d, .cons _ t, e => by
    obtain ⟨u, h1, h2⟩ := Reps.get (i := i) (d := d) t (by simpa using e)
    exact ⟨u, by simpa using h1, h2⟩
theorem Reps.getV {i : Nat} {v : V} : ∀ {ds : List D} {vs : List V}, Reps P w K F ds vs → vs[i]? = some v → ∃ d, ds[i]? = some d ∧ Rep P w K F d v := fun {ds vs} r e => by
  have hl := r.length
  obtain ⟨hi, _⟩ := List.getElem?_eq_some_iff.mp e
  obtain ⟨u, h1, h2⟩ := r.get (List.getElem?_eq_getElem (show i < ds.length by omega))
  rw [e] at h1; cases h1
  exact ⟨_, List.getElem?_eq_getElem (by omega), h2⟩
theorem Reps.append : ∀ {ds es : List D} {vs ws : List V}, Reps P w K F ds vs → Reps P w K F es ws → Reps P w K F (ds ++ es) (vs ++ ws)
  | _, _, _, _, .nil, s => s
  | _, _, _, _, .cons h t, s => .cons h (Reps.append t s)
theorem Reps.take : ∀ {ds : List D} {vs : List V} (n : Nat), Reps P w K F ds vs → Reps P w K F (ds.take n) (vs.take n)
  | _, _, 0, _ => .nil
  | _, _, _ + 1, .nil => .nil
  | _, _, n + 1, .cons h t => .cons h (Reps.take n t)
theorem Reps.drop : ∀ {ds : List D} {vs : List V} (n : Nat), Reps P w K F ds vs → Reps P w K F (ds.drop n) (vs.drop n)
  | _, _, 0, r => r
  | _, _, _ + 1, .nil => .nil
  | _, _, n + 1, .cons _ t => Reps.drop n t
theorem Reps.set {d : D} {v : V} (r : Rep P w K F d v) : ∀ {ds : List D} {vs : List V} (i : Nat), Reps P w K F ds vs → Reps P w K F (ds.set i d) (vs.set i v)
  | _, _, _, .nil => .nil
  | _, _, 0, .cons _ t => .cons r t
  | _, _, i + 1, .cons h t => .cons h (Reps.set r i t)
theorem Reps.eraseIdx : ∀ {ds : List D} {vs : List V} (i : Nat), Reps P w K F ds vs → Reps P w K F (ds.eraseIdx i) (vs.eraseIdx i)
  | _, _, _, .nil => .nil
  | _, _, 0, .cons _ t => t
  | _, _, i + 1, .cons h t => .cons h (Reps.eraseIdx i t)
theorem Reps.reverse {ds : List D} {vs : List V} (r : Reps P w K F ds vs) : Reps P w K F ds.reverse vs.reverse := by
  induction ds generalizing vs with
  | nil => cases r; exact .nil
  | cons d ds ih =>
    cases r with
    | cons h t => rw [List.reverse_cons, List.reverse_cons]; exact (ih t).append (.cons h .nil)
theorem Reps.ints : ∀ {is : List Int} {vs : List V}, Reps P w K F (is.map D.int) vs → vs = is.map V.int
  | [], _, .nil => rfl
  | i :: is, _, .cons h t => by cases h; rw [Reps.ints t]; rfl
theorem Reps.ofInts : ∀ (is : List Int), Reps P w K F (is.map D.int) (is.map V.int)
  | [] => .nil
  | i :: is => .cons (.int i) (Reps.ofInts is)
theorem Reps.bls : ∀ {is : List Bool} {vs : List V}, Reps P w K F (is.map D.bl) vs → vs = is.map V.bl
  | [], _, .nil => rfl
  | i :: is, _, .cons h t => by cases h; rw [Reps.bls t]; rfl

/-- one step of pure work: the frozen part F and the heap H grow; what is not frozen stays as it is and unfrozen -/
structure Stp (F H F' H' : Hp) : Prop where
  ff : Same F F'
  hh : Same H H'
  sub : Same F' H'
  out : ∀ b o, H b = some o → F b = none → F' b = none
theorem Stp.refl (s : Same F H) : Stp F H F H := ⟨Same.refl F, Same.refl H, s, fun _ _ _ h => h⟩
theorem Stp.trans {F1 H1 F2 H2 : Hp} (a : Stp F H F1 H1) (b : Stp F1 H1 F2 H2) : Stp F H F2 H2 :=
  ⟨a.ff.trans b.ff, a.hh.trans b.hh, b.sub, fun c o h n => b.out c o (a.hh c o h) (a.out c o h n)⟩
/-- a new frozen object -/
theorem Stp.new {p : Addr} {o : HO} (s : Same F H) (hp : H p = none) : Stp F H (upd F p o) (upd H p o) := by
  refine ⟨fun b u e => ?_, fun b u e => ?_, fun b u e => ?_, fun b u e n => ?_⟩
  · rw [upd_ne (ne_of_none (s b u e) hp)]; exact e
  · rw [upd_ne (ne_of_none e hp)]; exact e
  · unfold upd at e ⊢
    split
    · rename_i q; rw [if_pos q] at e; exact e
    · rename_i q; rw [if_neg q] at e; exact s b u e
  · rw [upd_ne (ne_of_none e hp)]; exact n
/-- a new object that is not frozen -/
theorem Stp.newO {p : Addr} {o : HO} (s : Same F H) (hp : H p = none) : Stp F H F (upd H p o) := by
  refine ⟨Same.refl F, fun b u e => ?_, fun b u e => ?_, fun b u e n => n⟩
  · rw [upd_ne (ne_of_none e hp)]; exact e
  · rw [upd_ne (ne_of_none (s b u e) hp)]; exact s b u e
/-- an object made since is frozen -/
theorem Stp.frz {p : Addr} {o : HO} {H0 F1 H1 : Hp} (a : Stp F H0 F1 H1) (h0 : H0 p = none) (h1 : H1 p = some o) : Stp F H0 (upd F1 p o) H1 := by
  refine ⟨fun b u e => ?_, a.hh, fun b u e => ?_, fun b u e n => ?_⟩
  · have e1 := a.ff b u e
    by_cases q : b = p
    · subst q
      rw [upd_same]
      have := a.sub b u e1
      rw [h1] at this
      exact this
    · rw [upd_ne q]; exact e1
  · by_cases q : b = p
    · subst q; rw [upd_same] at e; cases e; exact h1
    · rw [upd_ne q] at e; exact a.sub b u e
  · have q : b ≠ p := ne_of_none e h0
    rw [upd_ne q]; exact a.out b u e n
theorem Stp.free (a : Stp F H F' H') {p : Addr} (h : H' p = none) : H p = none := a.hh.free h
end

/-! ### what a slot holds -/
inductive Sl where
  /-- nothing that is known -/
  | no
  | d (x : D)
  /-- a list of the frame's own; a dict of nested keys, of ints -/
  | own (ds : List D) | ownN (kvs : List (NestedKey × D)) | ownK (kvs : List (Int × D))
  /-- an instance under way -/
  | ownI (a C : Addr) (fs : List (Str × D))
abbrev Rho := List Sl

section
variable (P : Program) (w : World) (K : PySem.W.Frag)
/-- what stands at an own slot's address -/
def OwnAt (F H : Hp) (p : Addr) : Sl → Prop
  | .own ds => ∃ vs, H p = some (.lst vs) ∧ Reps P w K F ds vs
  | .ownN xs => ∃ raw, H p = some (nd P w p raw) ∧ (p == sysModules) = false ∧ RepN P w K F xs raw
  | .ownK xs => ∃ kvs, H p = some (.dK kvs) ∧ RepK P w K F xs kvs
  | .ownI a C xs => p = a ∧ ∃ dx fs, H p = some (.ins C dx fs) ∧ RepF P w K F xs fs
  | _ => False
def Sl.isOwn : Sl → Bool
  | .no => false
  | .d _ => false
  | _ => true
/-- the frame: F frozen, H the heap; F0 H0 those at the entry -/
structure Fm (F0 H0 : Hp) (ρ : Rho) (σ : L2.St) (F H : Hp) : Prop where
  sub : Same F H
  f0 : Same F0 F
  h0 : Same H0 H
  out : ∀ b o, H0 b = some o → F0 b = none → F b = none
  len : ρ.length = σ.length
  dat : ∀ (i : Nat) (x : D), ρ[i]? = some (Sl.d x) → ∃ v, σ[i]? = some (some v) ∧ Rep P w K F x v
  own : ∀ (i : Nat) (x : Sl), ρ[i]? = some x → x.isOwn = true → ∃ p, σ[i]? = some (some (V.ref p)) ∧ OwnAt P w K F H p x ∧ F p = none ∧ H0 p = none
  one : ∀ (i j : Nat) (x y : Sl) (p : Addr), i ≠ j → ρ[i]? = some x → ρ[j]? = some y → x.isOwn = true → y.isOwn = true → σ[i]? = some (some (V.ref p)) → σ[j]? = some (some (V.ref p)) → False
end
theorem OwnAt.mono {P : Program} {w : World} {K : PySem.W.Frag} {F H F' H' : Hp} {p : Addr} (hf : Same F F') (hp : ∀ o, H p = some o → H' p = some o) : ∀ {x : Sl}, OwnAt P w K F H p x → OwnAt P w K F' H' p x
  | .own ds, ⟨vs, e, r⟩ => ⟨vs, hp _ e, r.mono hf⟩
  | .ownN xs, ⟨raw, e, s, r⟩ => ⟨raw, hp _ e, s, r.mono hf⟩
  | .ownK xs, ⟨kvs, e, r⟩ => ⟨kvs, hp _ e, r.mono hf⟩
  | .ownI a C xs, ⟨ea, dx, fs, e, r⟩ => ⟨ea, dx, fs, hp _ e, r.mono hf⟩
theorem OwnAt.some {P : Program} {w : World} {K : PySem.W.Frag} {F H : Hp} {p : Addr} : ∀ {x : Sl}, OwnAt P w K F H p x → ∃ o, H p = some o
  | .own ds, ⟨vs, e, r⟩ => ⟨_, e⟩
  | .ownN xs, ⟨raw, e, s, r⟩ => ⟨_, e⟩
  | .ownK xs, ⟨kvs, e, r⟩ => ⟨_, e⟩
  | .ownI a C xs, ⟨ea, dx, fs, e, r⟩ => ⟨_, e⟩

section
variable {P : Program} {w : World} {K : PySem.W.Frag} {F0 H0 F H F' H' : Hp} {ρ : Rho} {σ : L2.St}
/-- the frame behind pure work -/
theorem Fm.stp (E : Fm P w K F0 H0 ρ σ F H) (s : Stp F H F' H') : Fm P w K F0 H0 ρ σ F' H' where
  sub := s.sub
  f0 := E.f0.trans s.ff
  h0 := E.h0.trans s.hh
  out := fun b o h n => s.out b o (E.h0 b o h) (E.out b o h n)
  len := E.len
  dat := fun i x e => let ⟨v, h1, h2⟩ := E.dat i x e; ⟨v, h1, h2.mono s.ff⟩
  own := fun i x e q => let ⟨p, h1, h2, h3, h4⟩ := E.own i x e q; ⟨p, h1, h2.mono s.ff (fun o => s.hh p o), let ⟨o, ho⟩ := h2.some; s.out p o ho h3, h4⟩
  one := E.one
theorem Fm.st (E : Fm P w K F0 H0 ρ σ F H) : Stp F H F H := Stp.refl E.sub
end
end W3
end
section
set_option Elab.async false
set_option linter.all false
set_option maxRecDepth 100000
set_option maxHeartbeats 2000000
/-! LB: forward judgements over data; expressions. -/
namespace W3
open PySem PySem.Spec PyProof.Rows L2

/-! ### running -/
section
variable (X : Cx)
structure RunE (e : Expr) (σ : L2.St) (H : Hp) (Q : VK) : Prop where
  go : ∀ (pins : List (Addr × Obj)) (s : Shared), Inv X pins σ H s → wpAny (model X.prog X.w) X.A (eval e X.env) (EP X pins σ Q) X.xe s
structure RunT (e : Expr) (σ : L2.St) (H : Hp) (Q : Bool → Hp → Prop) : Prop where
  go : ∀ (pins : List (Addr × Obj)) (s : Shared), Inv X pins σ H s → wpAny (model X.prog X.w) X.A (isTrue e X.env (eval e X.env)) (TP X pins σ Q) X.xe s
structure RunW (e : Expr) (σ : L2.St) (H : Hp) (Q : Bool → Hp → Prop) : Prop where
  go : ∀ (whole : Sem Value) (pins : List (Addr × Obj)) (s : Shared), Inv X pins σ H s → wpAny (model X.prog X.w) X.A (isTrue e X.env whole) (TP X pins σ Q) X.xe s
structure RunA (es : List Expr) (σ : L2.St) (H : Hp) (Q : List V → Hp → Prop) : Prop where
  go : ∀ (pos : Pos) (pins : List (Addr × Obj)) (s : Shared), Inv X pins σ H s → wpAny (model X.prog X.w) X.A (spliced (backTo pos (starEach es X.env))) (AP X pins σ Q) X.xe s
structure RunS (st : Stmt) (σ : L2.St) (H : Hp) (D : Ends) : Prop where
  go : ∀ (pins : List (Addr × Obj)) (s : Shared), Inv X pins σ H s → wpAny (model X.prog X.w) X.A (exec st X.env) (SP X pins D) X.xe s
structure RunB (st : List Stmt) (σ : L2.St) (H : Hp) (D : Ends) : Prop where
  go : ∀ (pins : List (Addr × Obj)) (s : Shared), Inv X pins σ H s → wpAny (model X.prog X.w) X.A (execs st X.env) (SP X pins D) X.xe s
structure RunI (tg iter : Expr) (σ : L2.St) (H : Hp) (R : It → Hp → Prop) : Prop where
  go : ∀ (pins : List (Addr × Obj)) (s : Shared), Inv X pins σ H s →
    wpAny (model X.prog X.w) X.A (eval iter X.env) (fun v s1 => wpAny (model X.prog X.w) X.A (pyIter v) (PIE X pins σ tg R) X.xe s1) X.xe s
end
section
variable {X : Cx} {e : Expr} {es : List Expr} {σ : L2.St} {H : Hp} {st : Stmt} {sts : List Stmt} {tg iter : Expr}
theorem pe_run : PE X e (fun σ H Q => RunE X e σ H Q) := ⟨fun pins s _ _ _ I h => h.go pins s I⟩
theorem pt_run : PT X e (fun σ H Q => RunT X e σ H Q) := ⟨fun pins s _ _ _ I h => h.go pins s I⟩
theorem pw_run : PW X e (fun σ H Q => RunW X e σ H Q) := ⟨fun wh pins s _ _ _ I h => h.go wh pins s I⟩
theorem pa_run : PA X es (fun σ H Q => RunA X es σ H Q) := ⟨fun pos pins s _ _ _ I h => h.go pos pins s I⟩
theorem ps_run : PS X st (fun D σ H => RunS X st σ H D) := ⟨fun pins s _ _ _ I h => h.go pins s I⟩
theorem pss_run : PSs X sts (fun D σ H => RunB X sts σ H D) := ⟨fun pins s _ _ _ I h => h.go pins s I⟩
theorem pi_run : PI X tg iter (fun σ H R => RunI X tg iter σ H R) := ⟨fun pins s _ _ _ I h => h.go pins s I⟩
theorem run_pe {t : TE} {Q : VK} (p : PE X e t) (h : t σ H Q) : RunE X e σ H Q := ⟨fun pins s I => p.run pins s σ H Q I h⟩
theorem run_pt {t : TT} {Q : Bool → Hp → Prop} (p : PT X e t) (h : t σ H Q) : RunT X e σ H Q := ⟨fun pins s I => p.run pins s σ H Q I h⟩
theorem run_pw {t : TT} {Q : Bool → Hp → Prop} (p : PW X e t) (h : t σ H Q) : RunW X e σ H Q := ⟨fun wh pins s I => p.run wh pins s σ H Q I h⟩
theorem run_pa {t : TA} {Q : List V → Hp → Prop} (p : PA X es t) (h : t σ H Q) : RunA X es σ H Q := ⟨fun pos pins s I => p.run pos pins s σ H Q I h⟩
theorem run_ps {t : TS} {D : Ends} (p : PS X st t) (h : t D σ H) : RunS X st σ H D := ⟨fun pins s I => p.run pins s σ H D I h⟩
theorem run_pss {t : TS} {D : Ends} (p : PSs X sts t) (h : t D σ H) : RunB X sts σ H D := ⟨fun pins s I => p.run pins s σ H D I h⟩
theorem run_pi {t : TI} {R : It → Hp → Prop} (p : PI X tg iter t) (h : t σ H R) : RunI X tg iter σ H R := ⟨fun pins s I => p.run pins s σ H R I h⟩
end

/-! ### the names of a body -/
structure Cxt (X : Cx) (N L A G : List Str) (k : Nat) : Prop where
  hN : X.N = N
  nd : N.Nodup
  loc : ∀ x ∈ L, Vis X.env.scope x ∧ (x == ("__debug__" : Str)) = false ∧ (x == ("__classdict__" : Str)) = false
  asg : ∀ x ∈ A, Loc X.env.scope x ∧ (X.fn x = true ∨ X.env.scope.names.lookup x = some .local)
  glo : ∀ x ∈ G, Gl X x ∧ (x == ("__debug__" : Str)) = false ∧ x ≠ ("__name__" : Str)
  calm : X.calm = true
  room : Room k X.A
  xe : X.xe = fun _ _ => False
theorem Cxt.pass {X : Cx} {N L A G : List Str} {k : Nat} (C : Cxt X N L A G k) : PassesOwn (model X.prog X.w) X.A X.env X.xe := by rw [C.xe]; exact PassesOwn.never
theorem Cxt.u65 {X : Cx} {N L A G : List Str} {k : Nat} (C : Cxt X N L A G k) : X.A.units + 65 < cLine := by have := C.room.un; omega
theorem Cxt.u64 {X : Cx} {N L A G : List Str} {k : Nat} (C : Cxt X N L A G k) : X.A.units + 64 < cLine := C.room.units
theorem Cxt.u1 {X : Cx} {N L A G : List Str} {k : Nat} (C : Cxt X N L A G k) : X.A.units + 1 < cLine := hu_of C.room
theorem Cxt.u8 {X : Cx} {N L A G : List Str} {k : Nat} (C : Cxt X N L A G k) : (X.A.in1).units + 8 < cLine := by have := C.room.un; show X.A.units + 1 + 8 < cLine; omega

/-- the slot of a name -/
inductive Lk : List Str → Rho → Str → Nat → Sl → Prop
  | z {N : List Str} {ρ : Rho} {x : Str} {s : Sl} : Lk (x :: N) (s :: ρ) x 0 s
  | s {N : List Str} {ρ : Rho} {x y : Str} {n : Nat} {s t : Sl} (h : Lk N ρ x n s) : Lk (y :: N) (t :: ρ) x (n + 1) s
theorem Lk.n : ∀ {N : List Str} {ρ : Rho} {x : Str} {n : Nat} {s : Sl}, Lk N ρ x n s → N[n]? = some x
  | _, _, _, _, _, .z => rfl
  | _, _, _, _, _, .s h => by rw [List.getElem?_cons_succ]; exact h.n
theorem Lk.r : ∀ {N : List Str} {ρ : Rho} {x : Str} {n : Nat} {s : Sl}, Lk N ρ x n s → ρ[n]? = some s
  | _, _, _, _, _, .z => rfl
  | _, _, _, _, _, .s h => by rw [List.getElem?_cons_succ]; exact h.r
/-- a slot set -/
inductive Pt : Rho → Nat → Sl → Rho → Prop
  | z {ρ : Rho} {s t : Sl} : Pt (s :: ρ) 0 t (t :: ρ)
  | s {ρ ρ' : Rho} {n : Nat} {s t : Sl} (h : Pt ρ n t ρ') : Pt (s :: ρ) (n + 1) t (s :: ρ')
theorem Pt.eq : ∀ {ρ ρ' : Rho} {n : Nat} {t : Sl}, Pt ρ n t ρ' → ρ' = ρ.set n t
  | _, _, _, _, .z => rfl
  | _, _, _, _, .s h => by rw [List.set_cons_succ, ← h.eq]

theorem Pt.get : ∀ {ρ ρ' : Rho} {n : Nat} {t : Sl}, Pt ρ n t ρ' → ρ'[n]? = some t
  | _, _, _, _, .z => rfl
  | _, _, _, _, .s h => by rw [List.getElem?_cons_succ]; exact h.get

/-! ### judgements -/
section
variable (X : Cx) (F0 H0 : Hp) (ρ : Rho)
abbrev FmX (σ : L2.St) (F H : Hp) : Prop := Fm X.prog X.w X.K F0 H0 ρ σ F H
abbrev RepX (F : Hp) (d : D) (v : V) : Prop := Rep X.prog X.w X.K F d v
abbrev RepsX (F : Hp) (d : List D) (v : List V) : Prop := Reps X.prog X.w X.K F d v
/-- an expression's data -/
def WD (e : Expr) (P : D → Prop) : Prop := ∀ (σ : L2.St) (F H : Hp) (Q : VK), FmX X F0 H0 ρ σ F H → (∀ d v F' H', P d → Stp F H F' H' → RepX X F' d v → Q v H') → RunE X e σ H Q
/-- a new list, not frozen yet -/
def WF (e : Expr) (P : List D → Prop) : Prop := ∀ (σ : L2.St) (F H : Hp) (Q : VK), FmX X F0 H0 ρ σ F H → (∀ ds p vs F' H', P ds → Stp F H F' H' → H p = none → F' p = none → H' p = some (.lst vs) → RepsX X F' ds vs → Q (.ref p) H') → RunE X e σ H Q
def WT (e : Expr) (P : Bool → Prop) : Prop := ∀ (σ : L2.St) (F H : Hp) (Q : Bool → Hp → Prop), FmX X F0 H0 ρ σ F H → (∀ b F' H', P b → Stp F H F' H' → Q b H') → RunT X e σ H Q
def WW (e : Expr) (P : Bool → Prop) : Prop := ∀ (σ : L2.St) (F H : Hp) (Q : Bool → Hp → Prop), FmX X F0 H0 ρ σ F H → (∀ b F' H', P b → Stp F H F' H' → Q b H') → RunW X e σ H Q
def WA (es : List Expr) (P : List D → Prop) : Prop := ∀ (σ : L2.St) (F H : Hp) (Q : List V → Hp → Prop), FmX X F0 H0 ρ σ F H → (∀ ds vs F' H', P ds → Stp F H F' H' → RepsX X F' ds vs → Q vs H') → RunA X es σ H Q
end

/-- a two-place operation over data -/
structure OpD (X : Cx) (f : Value → Value → Sem Value) (g : D → D → (D → Prop) → Prop) : Prop where
  rule : ∃ r : R2, OpR X f r ∧ ∀ (F H : Hp) (x y : V) (dx dy : D) (P : D → Prop) (Q : VK), Same F H → RepX X F dx x → RepX X F dy y → g dx dy P → (∀ d v F' H', P d → Stp F H F' H' → RepX X F' d v → Q v H') → r x y H Q
structure CallD (X : Cx) (f : Value) (g : List D → (D → Prop) → Prop) : Prop where
  rule : ∃ r : List V → Hp → VK → Prop, CallR X f r ∧ ∀ (F H : Hp) (vs : List V) (ds : List D) (P : D → Prop) (Q : VK), Same F H → RepsX X F ds vs → g ds P → (∀ d v F' H', P d → Stp F H F' H' → RepX X F' d v → Q v H') → r vs H Q

section
variable {X : Cx} {F0 H0 : Hp} {ρ : Rho} {N L A G : List Str} {k : Nat} {P : D → Prop} {PB : Bool → Prop} {PL : List D → Prop} {a b c e : Expr} {es : List Expr} {pos : Pos}
theorem WD.mono {P' : D → Prop} (h : WD X F0 H0 ρ e P) (m : ∀ d, P d → P' d) : WD X F0 H0 ρ e P' := fun σ F H Q E q => h σ F H Q E fun d v F' H' p => q d v F' H' (m d p)
/-- a new list is frozen -/
theorem wd_fresh (h : WF X F0 H0 ρ e fun ds => P (.lst ds)) : WD X F0 H0 ρ e P := fun σ F H Q E q => h σ F H Q E fun ds p vs F' H' hp st h0 hf hh r =>
  q _ _ _ _ hp (st.frz h0 hh) (.lst upd_same (r.mono fun b u e => by rw [upd_ne (ne_of_none e hf)]; exact e))

/-! names, constants -/
theorem wd_var {x : Str} {n : Nat} {d : D} (C : Cxt X N L A G k) (h : Lk N ρ x n (.d d)) (m : x ∈ L) (q : P d) : WD X F0 H0 ρ (.Name x pos) P := fun σ F H Q E kk => by
  obtain ⟨vis, h1, h2⟩ := C.loc x m
  obtain ⟨v, e1, r⟩ := E.dat n d h.r
  exact run_pe (pe_var (i := n) (by rw [C.hN]; exact h.n) vis h1 h2) ⟨v, e1, kk d v F H q E.st r⟩
theorem wd_int {i : Int} {j : Nat} (q : P (.int i)) : WD X F0 H0 ρ (.Constant (.int i) j pos) P := fun σ F H Q E kk => run_pe pe_int (kk _ _ F H q E.st (.int i))
theorem wd_bl {b : Bool} {j : Nat} (q : P (.bl b)) : WD X F0 H0 ρ (.Constant (.bool b) j pos) P := fun σ F H Q E kk => run_pe pe_bl (kk _ _ F H q E.st (.bl b))
theorem wd_non {j : Nat} (q : P .non) : WD X F0 H0 ρ (.Constant .none j pos) P := fun σ F H Q E kk => run_pe pe_non (kk _ _ F H q E.st .non)
theorem wd_str {x : Str} {j : Nat} (q : P (.str x)) : WD X F0 H0 ρ (.Constant (.str x) j pos) P := fun σ F H Q E kk => run_pe pe_str (kk _ _ F H q E.st (.str x))
/-- a module's constant -/
def GCon (P : Program) (w : World) (K : PySem.W.Frag) (mg : Str → Option Value) (x : Str) (d : D) : Prop := ∃ u v, mg x = some u ∧ RelV v u ∧ ∀ F, Rep P w K F d v
theorem wd_glob {x : Str} {d : D} (C : Cxt X N L A G k) (m : x ∈ G) (T : GCon X.prog X.w X.K X.mg x d) (q : P d) : WD X F0 H0 ρ (.Name x pos) P := fun σ F H Q E kk => by
  obtain ⟨gl, h1, _⟩ := C.glo x m
  obtain ⟨u, v, hm, r, rep⟩ := T
  exact run_pe (pe_glob gl hm r h1) (kk d v F H q E.st (rep F))

/-! operations -/
theorem wd_op {op : Operator} {g : D → D → (D → Prop) → Prop} (o : OpD X (binaryOp op) g) (h : WD X F0 H0 ρ a fun da => WD X F0 H0 ρ b fun db => g da db P) : WD X F0 H0 ρ (.BinOp a op b pos) P := fun σ F H Q E kk => by
  obtain ⟨r, hr, hg⟩ := o.rule
  refine run_pe (pe_op hr pe_run pe_run) ?_
  refine h σ F H _ E fun da x F1 H1 h1 s1 r1 => ?_
  refine h1 σ F1 H1 _ (E.stp s1) fun db y F2 H2 h2 s2 r2 => ?_
  exact hg F2 H2 x y da db P Q s2.sub (r1.mono s2.ff) r2 h2 fun d v F3 H3 p s3 r3 => kk d v F3 H3 p ((s1.trans s2).trans s3) r3
theorem wd_cmp {op : CmpOp} {g : D → D → (D → Prop) → Prop} (o : OpD X (compareOp op) g) (h : WD X F0 H0 ρ a fun da => WD X F0 H0 ρ b fun db => g da db P) (hm : behindInMarks op b = false := by first | exact nomark _ | rfl) : WD X F0 H0 ρ (.Compare a [op] [b] pos) P := fun σ F H Q E kk => by
  obtain ⟨r, hr, hg⟩ := o.rule
  refine run_pe (pe_cmpR hr pe_run pe_run hm) ?_
  refine h σ F H _ E fun da x F1 H1 h1 s1 r1 => ?_
  refine h1 σ F1 H1 _ (E.stp s1) fun db y F2 H2 h2 s2 r2 => ?_
  exact hg F2 H2 x y da db P Q s2.sub (r1.mono s2.ff) r2 h2 fun d v F3 H3 p s3 r3 => kk d v F3 H3 p ((s1.trans s2).trans s3) r3
theorem wd_chain {op op' : CmpOp} {g g' : D → D → (D → Prop) → Prop} (o : OpD X (compareOp op) g) (o' : OpD X (compareOp op') g')
    (h : WD X F0 H0 ρ a fun da => WD X F0 H0 ρ b fun db => g da db fun d => ∃ t, d = .bl t ∧ if t = true then WD X F0 H0 ρ c fun dc => g' db dc P else P (.bl false)) (hm : lastMarks [op, op'] [b, c] = false := by with_unfolding_all rfl) : WD X F0 H0 ρ (.Compare a [op, op'] [b, c] pos) P := fun σ F H Q E kk => by
  obtain ⟨r, hr, hg⟩ := o.rule
  obtain ⟨r', hr', hg'⟩ := o'.rule
  refine run_pe (pe_chain hr hr' pe_run pe_run pe_run (hm := hm)) ?_
  refine h σ F H _ E fun da x F1 H1 h1 s1 r1 => ?_
  refine h1 σ F1 H1 _ (E.stp s1) fun db y F2 H2 h2 s2 r2 => ?_
  refine hg F2 H2 x y da db _ _ s2.sub (r1.mono s2.ff) r2 h2 fun d v F3 H3 p s3 r3 => ?_
  obtain ⟨t, rfl, p⟩ := p
  cases r3
  refine ⟨t, rfl, ?_⟩
  cases t with
  | true =>
    rw [if_pos rfl] at p ⊢
    refine p σ F3 H3 _ (E.stp ((s1.trans s2).trans s3)) fun dc z F4 H4 h4 s4 r4 => ?_
    exact hg' F4 H4 y z db dc P Q s4.sub (r2.mono (s3.ff.trans s4.ff)) r4 h4 fun d v F5 H5 p5 s5 r5 => kk d v F5 H5 p5 ((((s1.trans s2).trans s3).trans s4).trans s5) r5
  | false =>
    rw [if_neg Bool.false_ne_true] at p ⊢
    exact kk _ _ F3 H3 p ((s1.trans s2).trans s3) (.bl false)

/-! tests -/
theorem wt_cmp {op : CmpOp} {g : D → D → (D → Prop) → Prop} (o : OpD X (compareOp op) g) (h : WD X F0 H0 ρ a fun da => WD X F0 H0 ρ b fun db => g da db fun d => ∃ t, d = .bl t ∧ PB t) (hm : behindInMarks op b = false := by first | exact nomark _ | rfl) : WT X F0 H0 ρ (.Compare a [op] [b] pos) PB := fun σ F H Q E kk => by
  obtain ⟨r, hr, hg⟩ := o.rule
  refine run_pt (pt_cmpR hr pe_run pe_run hm) ?_
  refine h σ F H _ E fun da x F1 H1 h1 s1 r1 => ?_
  refine h1 σ F1 H1 _ (E.stp s1) fun db y F2 H2 h2 s2 r2 => ?_
  refine hg F2 H2 x y da db _ _ s2.sub (r1.mono s2.ff) r2 h2 fun d v F3 H3 p s3 r3 => ?_
  obtain ⟨t, rfl, p⟩ := p
  cases r3
  exact ⟨t, rfl, kk t F3 H3 p ((s1.trans s2).trans s3)⟩
theorem wt_chain {op op' : CmpOp} {g g' : D → D → (D → Prop) → Prop} (o : OpD X (compareOp op) g) (o' : OpD X (compareOp op') g')
    (h : WD X F0 H0 ρ a fun da => WD X F0 H0 ρ b fun db => g da db fun d => ∃ t, d = .bl t ∧ if t = true then WD X F0 H0 ρ c fun dc => g' db dc fun d => ∃ t, d = .bl t ∧ PB t else PB false) (hm : lastMarks [op, op'] [b, c] = false := by with_unfolding_all rfl) : WT X F0 H0 ρ (.Compare a [op, op'] [b, c] pos) PB := fun σ F H Q E kk => by
  obtain ⟨r, hr, hg⟩ := o.rule
  obtain ⟨r', hr', hg'⟩ := o'.rule
  refine run_pt (pt_chain hr hr' pe_run pe_run pe_run (hm := hm)) ?_
  refine h σ F H _ E fun da x F1 H1 h1 s1 r1 => ?_
  refine h1 σ F1 H1 _ (E.stp s1) fun db y F2 H2 h2 s2 r2 => ?_
  refine hg F2 H2 x y da db _ _ s2.sub (r1.mono s2.ff) r2 h2 fun d v F3 H3 p s3 r3 => ?_
  obtain ⟨t, rfl, p⟩ := p
  cases r3
  refine ⟨t, rfl, ?_⟩
  cases t with
  | true =>
    rw [if_pos rfl] at p ⊢
    refine p σ F3 H3 _ (E.stp ((s1.trans s2).trans s3)) fun dc z F4 H4 h4 s4 r4 => ?_
    refine hg' F4 H4 y z db dc _ _ s4.sub (r2.mono (s3.ff.trans s4.ff)) r4 h4 fun d v F5 H5 p5 s5 r5 => ?_
    obtain ⟨t, rfl, p⟩ := p5
    cases r5
    exact ⟨t, rfl, kk t F5 H5 p ((((s1.trans s2).trans s3).trans s4).trans s5)⟩
  | false =>
    rw [if_neg Bool.false_ne_true] at p ⊢
    exact ⟨false, rfl, kk _ F3 H3 p ((s1.trans s2).trans s3)⟩
theorem wt_val (h : WD X F0 H0 ρ e fun d => ∃ t, d = .bl t ∧ PB t) (he : ∀ whole, isTrue e X.env whole = (do let v ← whole; standAt e.pos; holding [v] (truthy v)) := by intro _; rfl) : WT X F0 H0 ρ e PB := fun σ F H Q E kk => by
  refine run_pt (pt_val pe_run he) ?_
  refine h σ F H _ E fun d v F1 H1 h1 s1 r1 => ?_
  obtain ⟨t, rfl, p⟩ := h1
  cases r1
  exact ⟨t, rfl, kk t F1 H1 p s1⟩
theorem wt_not (h : WT X F0 H0 ρ a fun t => PB (!t)) : WT X F0 H0 ρ (.UnaryOp .Not a pos) PB := fun σ F H Q E kk => run_pt (pt_not pt_run) (h σ F H _ E fun t F1 H1 p s => kk (!t) F1 H1 p s)
theorem wt_w (h : WW X F0 H0 ρ e PB) : WT X F0 H0 ρ e PB := fun σ F H Q E kk => ⟨fun pins s I => (h σ F H Q E kk).go _ pins s I⟩
theorem ww_and1 (h : WT X F0 H0 ρ a PB) : WW X F0 H0 ρ (.BoolOp .And [a] pos) PB := fun σ F H Q E kk => run_pw (pw_and1 pt_run) (h σ F H Q E kk)
theorem ww_or1 (h : WT X F0 H0 ρ a PB) : WW X F0 H0 ρ (.BoolOp .Or [a] pos) PB := fun σ F H Q E kk => run_pw (pw_or1 pt_run) (h σ F H Q E kk)
theorem ww_and {rest : List Expr} (h : WT X F0 H0 ρ a fun t => if t = true then WW X F0 H0 ρ (.BoolOp .And (b :: rest) pos) PB else PB false) : WW X F0 H0 ρ (.BoolOp .And (a :: b :: rest) pos) PB := fun σ F H Q E kk =>
  run_pw (pw_and pt_run pw_run) (h σ F H _ E fun t F1 H1 p s => by
    cases t with
    | true =>
      rw [if_pos rfl] at p ⊢
      exact p σ F1 H1 Q (E.stp s) fun t F2 H2 p2 s2 => kk t F2 H2 p2 (s.trans s2)
    | false =>
      rw [if_neg Bool.false_ne_true] at p ⊢
      exact kk false F1 H1 p s)
theorem ww_or {rest : List Expr} (h : WT X F0 H0 ρ a fun t => if t = true then PB true else WW X F0 H0 ρ (.BoolOp .Or (b :: rest) pos) PB) : WW X F0 H0 ρ (.BoolOp .Or (a :: b :: rest) pos) PB := fun σ F H Q E kk =>
  run_pw (pw_or pt_run pw_run) (h σ F H _ E fun t F1 H1 p s => by
    cases t with
    | true =>
      rw [if_pos rfl] at p ⊢
      exact kk true F1 H1 p s
    | false =>
      rw [if_neg Bool.false_ne_true] at p ⊢
      exact p σ F1 H1 Q (E.stp s) fun t F2 H2 p2 s2 => kk t F2 H2 p2 (s.trans s2))
/-! .. as values (bools) -/
theorem wd_one {op : BoolOp} (h : WD X F0 H0 ρ a P) : WD X F0 H0 ρ (.BoolOp op [a] pos) P := fun σ F H Q E kk => run_pe (pe_one pe_run) (h σ F H Q E kk)
theorem wd_and {rest : List Expr} (h : WD X F0 H0 ρ a fun d => ∃ t, d = .bl t ∧ if t = true then WD X F0 H0 ρ (.BoolOp .And (b :: rest) pos) P else P (.bl false)) : WD X F0 H0 ρ (.BoolOp .And (a :: b :: rest) pos) P := fun σ F H Q E kk =>
  run_pe (pe_and pe_run pe_run) (h σ F H _ E fun d v F1 H1 p s r => by
    obtain ⟨t, rfl, p⟩ := p
    cases r
    refine ⟨t, rfl, ?_⟩
    cases t with
    | true =>
      rw [if_pos rfl] at p ⊢
      exact p σ F1 H1 Q (E.stp s) fun d v F2 H2 p2 s2 => kk d v F2 H2 p2 (s.trans s2)
    | false =>
      rw [if_neg Bool.false_ne_true] at p ⊢
      exact kk _ _ F1 H1 p s (.bl false))
theorem wd_or {rest : List Expr} (h : WD X F0 H0 ρ a fun d => ∃ t, d = .bl t ∧ if t = true then P (.bl true) else WD X F0 H0 ρ (.BoolOp .Or (b :: rest) pos) P) : WD X F0 H0 ρ (.BoolOp .Or (a :: b :: rest) pos) P := fun σ F H Q E kk =>
  run_pe (pe_or pe_run pe_run) (h σ F H _ E fun d v F1 H1 p s r => by
    obtain ⟨t, rfl, p⟩ := p
    cases r
    refine ⟨t, rfl, ?_⟩
    cases t with
    | true =>
      rw [if_pos rfl] at p ⊢
      exact kk _ _ F1 H1 p s (.bl true)
    | false =>
      rw [if_neg Bool.false_ne_true] at p ⊢
      exact p σ F1 H1 Q (E.stp s) fun d v F2 H2 p2 s2 => kk d v F2 H2 p2 (s.trans s2))
theorem wd_not (h : WD X F0 H0 ρ a fun d => ∃ t, d = .bl t ∧ P (.bl (!t))) : WD X F0 H0 ρ (.UnaryOp .Not a pos) P := fun σ F H Q E kk =>
  run_pe (pe_not pe_run) (h σ F H _ E fun d v F1 H1 p s r => by
    obtain ⟨t, rfl, p⟩ := p
    cases r
    exact ⟨t, rfl, kk _ _ F1 H1 p s (.bl _)⟩)
theorem wd_ifexp (h : WT X F0 H0 ρ c fun t => if t = true then WD X F0 H0 ρ a P else WD X F0 H0 ρ b P) : WD X F0 H0 ρ (.IfExp c a b pos) P := fun σ F H Q E kk =>
  run_pe (pe_ifExp pt_run pe_run pe_run) (h σ F H _ E fun t F1 H1 p s => by
    cases t with
    | true =>
      rw [if_pos rfl] at p ⊢
      exact p σ F1 H1 Q (E.stp s) fun d v F2 H2 p2 s2 => kk d v F2 H2 p2 (s.trans s2)
    | false =>
      rw [if_neg Bool.false_ne_true] at p ⊢
      exact p σ F1 H1 Q (E.stp s) fun d v F2 H2 p2 s2 => kk d v F2 H2 p2 (s.trans s2))

/-! arguments, displays -/
theorem wa_nil (q : PL []) : WA X F0 H0 ρ [] PL := fun σ F H Q E kk => run_pa pa_nil (kk [] [] F H q E.st .nil)
theorem wa_cons (h : WD X F0 H0 ρ e fun d => WA X F0 H0 ρ es fun ds => PL (d :: ds)) (hs : starEach (e :: es) X.env = (false, eval e X.env) :: starEach es X.env := by rfl) : WA X F0 H0 ρ (e :: es) PL := fun σ F H Q E kk =>
  run_pa (pa_cons pe_run pa_run hs) (h σ F H _ E fun d v F1 H1 p s r => p σ F1 H1 _ (E.stp s) fun ds vs F2 H2 p2 s2 r2 => kk _ _ F2 H2 p2 (s.trans s2) (.cons (r.mono s2.ff) r2))
/-- *e, e a tuple -/
theorem wa_star {sp : Pos} (h : WD X F0 H0 ρ e fun d => ∃ xs, d = .tup xs ∧ WA X F0 H0 ρ es fun ds => PL (xs ++ ds)) (hs : starEach (.Starred e sp :: es) X.env = (true, eval e X.env) :: starEach es X.env := by rfl) : WA X F0 H0 ρ (.Starred e sp :: es) PL := fun σ F H Q E kk =>
  run_pa (StX.pa_star pe_run pa_run hs) (h σ F H _ E fun d v F1 H1 p s r => by
    obtain ⟨xs, rfl, p⟩ := p
    cases r with
    | tup hq r =>
      exact ⟨_, _, rfl, .inl (Same.tupS s.sub hq), p σ F1 H1 _ (E.stp s) fun ds vs F2 H2 p2 s2 r2 => kk _ _ F2 H2 p2 (s.trans s2) ((r.mono s2.ff).append r2)⟩)
/-- *e, e a list -/
theorem wa_starL {sp : Pos} (h : WD X F0 H0 ρ e fun d => ∃ xs, d = .lst xs ∧ WA X F0 H0 ρ es fun ds => PL (xs ++ ds)) (hs : starEach (.Starred e sp :: es) X.env = (true, eval e X.env) :: starEach es X.env := by rfl) : WA X F0 H0 ρ (.Starred e sp :: es) PL := fun σ F H Q E kk =>
  run_pa (StX.pa_star pe_run pa_run hs) (h σ F H _ E fun d v F1 H1 p s r => by
    obtain ⟨xs, rfl, p⟩ := p
    cases r with
    | lst hq r =>
      exact ⟨_, _, rfl, .inr (SqL.of (s.sub _ _ hq)), p σ F1 H1 _ (E.stp s) fun ds vs F2 H2 p2 s2 r2 => kk _ _ F2 H2 p2 (s.trans s2) ((r.mono s2.ff).append r2)⟩)
theorem wd_tup {x1 : Nat} (h : WA X F0 H0 ρ es fun ds => ds.length ≤ sizeLine ∧ P (.tup ds)) : WD X F0 H0 ρ (.Tuple es x1 pos) P := fun σ F H Q E kk =>
  run_pe (pe_tup pa_run) (h σ F H _ E fun ds vs F1 H1 p s r => ⟨by rw [← r.length]; exact p.1, fun q hq => kk _ _ _ _ p.2 (s.trans (Stp.new s.sub hq)) (.tup (SqT.of upd_same) (r.mono (Stp.new s.sub hq).ff))⟩)
theorem wf_lst {PF : List D → Prop} (h : WA X F0 H0 ρ es fun ds => ds.length ≤ sizeLine ∧ PF ds) : WF X F0 H0 ρ (.List es pos) PF := fun σ F H Q E kk =>
  run_pe (pe_lst pa_run) (h σ F H _ E fun ds vs F1 H1 p s r => ⟨by rw [← r.length]; exact p.1, fun q hq => kk ds q vs F1 (upd H1 q (.lst vs)) p.2 (s.trans (Stp.newO s.sub hq)) (s.free hq) (s.sub.free hq) upd_same r⟩)
end
end W3
end
section
set_option Elab.async false
set_option linter.all false
set_option maxRecDepth 100000
set_option maxHeartbeats 2000000
/-! LC: operators, comparisons, subscripts, slices, fields, calls over data. -/
namespace W3
open PySem PySem.Spec PyProof.Rows L2

/-! ### keys as data -/
mutual
def noTx : NestedKey → Bool
  | .none => true
  | .num _ => true
  | .text _ => false
  | .tup ks => noTxs ks
def noTxs : List NestedKey → Bool
  | [] => true
  | k :: ks => noTx k && noTxs ks
end
theorem noTxs_all : ∀ ks : List NestedKey, noTxs ks = ks.all noTx
  | [] => rfl
  | k :: ks => by rw [noTxs, noTxs_all ks]; rfl
theorem datas_map : ∀ ks : List NestedKey, NestedKey.datas ks = ks.map NestedKey.data
  | [] => rfl
  | k :: ks => by rw [NestedKey.datas, datas_map ks]; rfl
mutual
theorem key_lay : ∀ k : NestedKey, noTx k = true → (NestedKey.data k).canLay0 = true
  | .none, _ => by simp only [NestedKey.data, PyData.canLay0]
  | .num _, _ => by simp only [NestedKey.data, PyData.canLay0]
  | .text _, h => by simp [noTx] at h
  | .tup ks, h => by simp only [NestedKey.data, PyData.canLay0]; exact keys_lay ks (by simpa [noTx] using h)
theorem keys_lay : ∀ ks : List NestedKey, noTxs ks = true → PyData.canLayAll0 (NestedKey.datas ks) = true
  | [], _ => by simp only [NestedKey.datas, PyData.canLayAll0]
  | k :: ks, h => by
    rw [noTxs, Bool.and_eq_true] at h
    simp only [NestedKey.datas, PyData.canLayAll0]
    rw [key_lay k h.1, keys_lay ks h.2]; rfl
end
mutual
theorem key_depth : ∀ k : NestedKey, (NestedKey.data k).depth = k.depth
  | .none => by simp only [NestedKey.data, PyData.depth, NestedKey.depth]
  | .num _ => by simp only [NestedKey.data, PyData.depth, NestedKey.depth]
  | .text _ => by simp only [NestedKey.data, PyData.depth, NestedKey.depth]
  | .tup ks => by simp only [NestedKey.data, PyData.depth, NestedKey.depth]; rw [keys_depth ks]
theorem keys_depth : ∀ ks : List NestedKey, PyData.depthAll (NestedKey.datas ks) = NestedKey.depthAll ks
  | [] => by simp only [NestedKey.datas, PyData.depthAll, NestedKey.depthAll]
  | k :: ks => by simp only [NestedKey.datas, PyData.depthAll, NestedKey.depthAll]; rw [key_depth k, keys_depth ks]
end
mutual
theorem key_eqv : ∀ a b : NestedKey, PyData.eqv a.data b.data = NestedKey.beq a b
  | .none, b => by cases b <;> simp only [NestedKey.data, PyData.eqv, NestedKey.beq]
  | .num i, b => by
    cases b <;> simp only [NestedKey.data, PyData.eqv, NestedKey.beq]
    rw [Bool.eq_iff_iff]; simp
  | .text i, b => by
    cases b <;> simp only [NestedKey.data, PyData.eqv, NestedKey.beq]
    rw [Bool.eq_iff_iff]; simp
  | .tup ks, b => by
    cases b with
    | tup ls => simp only [NestedKey.data, PyData.eqv, NestedKey.beq]; exact keys_eqv ks ls
    | _ => simp only [NestedKey.data, PyData.eqv, NestedKey.beq]
theorem keys_eqv : ∀ as bs : List NestedKey, PyData.eqvAll (NestedKey.datas as) (NestedKey.datas bs) = NestedKey.beqAll as bs
  | [], [] => by simp only [NestedKey.datas, PyData.eqvAll, NestedKey.beqAll]
  | [], b :: bs => by simp only [NestedKey.datas, PyData.eqvAll, NestedKey.beqAll]
  | a :: as, [] => by simp only [NestedKey.datas, PyData.eqvAll, NestedKey.beqAll]
  | a :: as, b :: bs => by simp only [NestedKey.datas, PyData.eqvAll, NestedKey.beqAll]; rw [key_eqv a b, keys_eqv as bs]
end
section
variable {P : Program} {w : World} {K : PySem.W.Frag} {F H : Hp}
mutual
theorem rep_dp (s : Same F H) : ∀ (k : NestedKey) (v : V), Rep P w K F (ofK k) v → Dp K H v k.data
  | .none, v, h => by
    unfold ofK at h
    cases h
    simp only [NestedKey.data]; exact .non
  | .num i, v, h => by
    unfold ofK at h
    cases h
    simp only [NestedKey.data]; exact .int i
  | .text x, v, h => by
    unfold ofK at h
    cases h
    simp only [NestedKey.data]; exact .str x
  | .tup ks, v, h => by
    unfold ofK at h
    cases h with
    | tup hq r => simp only [NestedKey.data]; exact .tup (Same.tupS s hq) (reps_dp s ks _ r)
theorem reps_dp (s : Same F H) : ∀ (ks : List NestedKey) (vs : List V), Reps P w K F (ofKs ks) vs → DpAll K H vs (NestedKey.datas ks)
  | [], vs, h => by
    unfold ofKs at h
    cases h
    simp only [NestedKey.datas]; exact .nil
  | k :: ks, vs, h => by
    unfold ofKs at h
    cases h with
    | cons h t => simp only [NestedKey.datas]; exact .cons (rep_dp s k _ h) (reps_dp s ks _ t)
end
end
/-- d is a key: a nested tuple of ints and None -/
structure IsK (d : D) (k : NestedKey) : Prop where
  eq : d = ofK k
  dep : k.depth ≤ 8
  nt : noTx k = true
theorem IsK.shaped {d : D} {k : NestedKey} (h : IsK d k) : SeqAt.shaped k.data = true := by
  show (k.data.canLay0 && decide (k.data.depth ≤ 64)) = true
  rw [Bool.and_eq_true, key_depth]
  exact ⟨key_lay k h.nt, decide_eq_true (by have := h.dep; omega)⟩
/-- d is a list of keys -/
structure IsL (d : D) (ks : List NestedKey) : Prop where
  eq : d = .lst (ofKs ks)
  dep : ∀ k ∈ ks, k.depth ≤ 8
  nt : ∀ k ∈ ks, noTx k = true
theorem depthAll_le {n : Nat} : ∀ {ks : List NestedKey}, (∀ k ∈ ks, k.depth ≤ n) → NestedKey.depthAll ks ≤ n
  | [], _ => by simp only [NestedKey.depthAll]; omega
  | k :: ks, h => by
    simp only [NestedKey.depthAll]
    have h1 := h k List.mem_cons_self
    have h2 := depthAll_le (ks := ks) fun k hk => h k (List.mem_cons_of_mem _ hk)
    omega
theorem IsL.shaped {d : D} {ks : List NestedKey} (h : IsL d ks) : SeqAt.shaped (.list (NestedKey.datas ks)) = true := by
  show (PyData.canLay0 (.list (NestedKey.datas ks)) && decide (PyData.depth (.list (NestedKey.datas ks)) ≤ 64)) = true
  rw [Bool.and_eq_true]
  refine ⟨?_, decide_eq_true ?_⟩
  · simp only [PyData.canLay0]
    exact keys_lay ks (by rw [noTxs_all]; exact List.all_eq_true.mpr h.nt)
  · simp only [PyData.depth]
    rw [keys_depth]
    have := depthAll_le h.dep
    omega

section
variable {X : Cx} {N L A G : List Str} {k : Nat}
/-! ### operators -/
theorem od_I {f : Value → Value → Sem Value} {g : Int → Int → Int} (o : OpR X f (rI0 fun i j => .int (g i j))) : OpD X f (fun a b P => ∃ i j, a = .int i ∧ b = .int j ∧ P (.int (g i j))) :=
  ⟨_, o, fun F H x y dx dy P Q s rx ry h kk => by
    obtain ⟨i, j, rfl, rfl, p⟩ := h
    cases rx; cases ry
    exact ⟨i, j, rfl, rfl, kk _ _ F H p (Stp.refl s) (.int _)⟩⟩
theorem od_IC {f : Value → Value → Sem Value} {c : Int → Int → Prop} {g : Int → Int → Int} (o : OpR X f (rI c fun i j => .int (g i j))) : OpD X f (fun a b P => ∃ i j, a = .int i ∧ b = .int j ∧ c i j ∧ P (.int (g i j))) :=
  ⟨_, o, fun F H x y dx dy P Q s rx ry h kk => by
    obtain ⟨i, j, rfl, rfl, hc, p⟩ := h
    cases rx; cases ry
    exact ⟨i, j, rfl, rfl, hc, kk _ _ F H p (Stp.refl s) (.int _)⟩⟩
theorem od_B {f : Value → Value → Sem Value} {g : Int → Int → Bool} (o : OpR X f (rI0 fun i j => .bl (g i j))) : OpD X f (fun a b P => ∃ i j, a = .int i ∧ b = .int j ∧ P (.bl (g i j))) :=
  ⟨_, o, fun F H x y dx dy P Q s rx ry h kk => by
    obtain ⟨i, j, rfl, rfl, p⟩ := h
    cases rx; cases ry
    exact ⟨i, j, rfl, rfl, kk _ _ F H p (Stp.refl s) (.bl _)⟩⟩
theorem od_add : OpD X (binaryOp .Add) (fun a b P => ∃ i j, a = .int i ∧ b = .int j ∧ P (.int (i + j))) := od_I op_add
theorem od_sub : OpD X (binaryOp .Sub) (fun a b P => ∃ i j, a = .int i ∧ b = .int j ∧ P (.int (i - j))) := od_I op_sub
theorem od_mul : OpD X (binaryOp .Mult) (fun a b P => ∃ i j, a = .int i ∧ b = .int j ∧ CMul i j ∧ P (.int (i * j))) := od_IC op_mul
theorem od_mod : OpD X (binaryOp .Mod) (fun a b P => ∃ i j, a = .int i ∧ b = .int j ∧ 0 < j ∧ P (.int (i % j))) := od_IC op_mod
theorem od_fdiv : OpD X (binaryOp .FloorDiv) (fun a b P => ∃ i j, a = .int i ∧ b = .int j ∧ CDiv i j ∧ P (.int (i / j))) := od_IC op_fdiv
theorem od_pow : OpD X (binaryOp .Pow) (fun a b P => ∃ i j, a = .int i ∧ b = .int j ∧ CPow i j ∧ P (.int (i ^ j.toNat))) := od_IC op_pow
theorem od_lt : OpD X (compareOp .Lt) (fun a b P => ∃ i j, a = .int i ∧ b = .int j ∧ P (.bl (decide (i < j)))) := od_B op_lt
theorem od_le : OpD X (compareOp .LtE) (fun a b P => ∃ i j, a = .int i ∧ b = .int j ∧ P (.bl (decide (i ≤ j)))) := od_B op_le
theorem od_gt : OpD X (compareOp .Gt) (fun a b P => ∃ i j, a = .int i ∧ b = .int j ∧ P (.bl (decide (j < i)))) := od_B op_gt
theorem od_ge : OpD X (compareOp .GtE) (fun a b P => ∃ i j, a = .int i ∧ b = .int j ∧ P (.bl (decide (j ≤ i)))) := od_B op_ge
/-- two tuples -/
theorem od_cat : OpD X (binaryOp .Add) (fun a b P => ∃ xs ys, a = .tup xs ∧ b = .tup ys ∧ xs.length + ys.length ≤ sizeLine ∧ P (.tup (xs ++ ys))) :=
  ⟨_, op_catA, fun F H x y dx dy P Q s rx ry h kk => by
    obtain ⟨xs, ys, rfl, rfl, hl, p⟩ := h
    cases rx with
    | @tup a vs _ h1 r1 =>
      cases ry with
      | @tup b ws _ h2 r2 =>
        refine ⟨a, b, vs, ws, rfl, rfl, Same.tupS s h1, Same.tupS s h2, by rw [← r1.length, ← r2.length]; exact hl, fun e => ?_, fun _ e => ?_, fun _ _ q hq => ?_⟩
        · subst e
          cases r1
          exact kk _ _ F H p (Stp.refl s) (.tup h2 r2)
        · subst e
          cases r2
          exact kk _ _ F H p (Stp.refl s) (by rw [List.append_nil]; exact .tup h1 r1)
        · exact kk _ _ _ _ p (Stp.new s hq) (.tup (SqT.of upd_same) ((r1.append r2).mono (Stp.new s hq).ff))⟩
/-- two lists -/
theorem od_catL : OpD X (binaryOp .Add) (fun a b P => ∃ xs ys, a = .lst xs ∧ b = .lst ys ∧ xs.length + ys.length ≤ sizeLine ∧ P (.lst (xs ++ ys))) :=
  ⟨_, op_cat, fun F H x y dx dy P Q s rx ry h kk => by
    obtain ⟨xs, ys, rfl, rfl, hl, p⟩ := h
    cases rx with
    | @lst a vs _ h1 r1 =>
      cases ry with
      | @lst b ws _ h2 r2 =>
        exact ⟨a, b, vs, ws, rfl, rfl, s _ _ h1, s _ _ h2, by rw [← r1.length, ← r2.length]; exact hl, fun q hq => kk _ _ _ _ p (Stp.new s hq) (.lst upd_same ((r1.append r2).mono (Stp.new s hq).ff))⟩⟩
theorem reps_rep {P : Program} {w : World} {K : PySem.W.Frag} {F : Hp} {ds : List D} {vs : List V} (r : Reps P w K F ds vs) : ∀ n : Nat, Reps P w K F (List.replicate n ds).flatten (List.replicate n vs).flatten
  | 0 => by rw [List.replicate_zero, List.replicate_zero]; exact .nil
  | n + 1 => by rw [List.replicate_succ, List.replicate_succ, List.flatten_cons, List.flatten_cons]; exact r.append (reps_rep r n)
/-- a list times 2 -/
theorem od_rep2 : OpD X (binaryOp .Mult) (fun a b P => ∃ xs, a = .lst xs ∧ b = .int 2 ∧ xs.length * 2 ≤ sizeLine ∧ P (.lst (xs ++ xs))) :=
  ⟨_, op_rep, fun F H x y dx dy P Q s rx ry h kk => by
    obtain ⟨xs, rfl, rfl, hl, p⟩ := h
    cases ry
    cases rx with
    | @lst a vs _ h1 r1 =>
      refine ⟨a, 2, vs, rfl, rfl, s _ _ h1, by decide, by decide, by rw [← r1.length]; exact hl, fun q hq => kk _ _ _ _ p (Stp.new s hq) (.lst upd_same ?_)⟩
      have e := (reps_rep r1 2).mono (Stp.new (o := .lst ((List.replicate 2 vs).flatten)) s hq).ff
      have e1 : (List.replicate 2 xs).flatten = xs ++ xs := by simp [List.replicate]
      rw [e1] at e
      exact e⟩
/-! ### equality -/
def D.sc : D → Bool
  | .non => true | .int _ => true | .str _ => true
  | _ => false
/-- == of keys -/
theorem od_eq (C : Cxt X N L A G k) : OpD X (compareOp .Eq) (fun a b P => ∃ i j, IsK a i ∧ IsK b j ∧ P (.bl (decide (i = j)))) :=
  ⟨_, op_eqD C.u64, fun F H x y dx dy P Q s rx ry h kk => by
    obtain ⟨i, j, hi, hj, p⟩ := h
    have ei := hi.eq; have ej := hj.eq
    subst ei; subst ej
    refine ⟨_, _, rep_dp s i x rx, rep_dp s j y ry, hi.shaped, hj.shaped, ?_⟩
    rw [key_eqv, ← NestedKey.decide_eq]
    exact kk _ _ F H p (Stp.refl s) (.bl _)⟩
theorem od_ne (C : Cxt X N L A G k) : OpD X (compareOp .NotEq) (fun a b P => ∃ i j, IsK a i ∧ IsK b j ∧ P (.bl (!decide (i = j)))) :=
  ⟨_, op_neD C.u64, fun F H x y dx dy P Q s rx ry h kk => by
    obtain ⟨i, j, hi, hj, p⟩ := h
    have ei := hi.eq; have ej := hj.eq
    subst ei; subst ej
    refine ⟨_, _, rep_dp s i x rx, rep_dp s j y ry, hi.shaped, hj.shaped, ?_⟩
    rw [key_eqv, ← NestedKey.decide_eq]
    exact kk _ _ F H p (Stp.refl s) (.bl _)⟩
theorem repl_dp {F H : Hp} (s : Same F H) {d : D} {ks : List NestedKey} {v : V} (h : IsL d ks) (r : RepX X F d v) : Dp X.K H v (.list (NestedKey.datas ks)) := by
  have e := h.eq
  subst e
  cases r with
  | lst hq r => exact .lst (SqL.of (s _ _ hq)) (reps_dp s ks _ r)
/-- == of lists of keys -/
theorem od_eqL (C : Cxt X N L A G k) : OpD X (compareOp .Eq) (fun a b P => ∃ is js, IsL a is ∧ IsL b js ∧ P (.bl (decide (is = js)))) :=
  ⟨_, op_eqD C.u64, fun F H x y dx dy P Q s rx ry h kk => by
    obtain ⟨i, j, hi, hj, p⟩ := h
    refine ⟨_, _, repl_dp s hi rx, repl_dp s hj ry, hi.shaped, hj.shaped, ?_⟩
    have e : PyData.eqv (.list (NestedKey.datas i)) (.list (NestedKey.datas j)) = decide (i = j) := by
      simp only [PyData.eqv]
      rw [keys_eqv]
      have q := NestedKey.decide_eq (.tup i) (.tup j)
      simp only [NestedKey.beq] at q
      rw [← q]
      simp
    rw [e]
    exact kk _ _ F H p (Stp.refl s) (.bl _)⟩
theorem od_neL (C : Cxt X N L A G k) : OpD X (compareOp .NotEq) (fun a b P => ∃ is js, IsL a is ∧ IsL b js ∧ P (.bl (!decide (is = js)))) :=
  ⟨_, op_neD C.u64, fun F H x y dx dy P Q s rx ry h kk => by
    obtain ⟨i, j, hi, hj, p⟩ := h
    refine ⟨_, _, repl_dp s hi rx, repl_dp s hj ry, hi.shaped, hj.shaped, ?_⟩
    have e : PyData.eqv (.list (NestedKey.datas i)) (.list (NestedKey.datas j)) = decide (i = j) := by
      simp only [PyData.eqv]
      rw [keys_eqv]
      have q := NestedKey.decide_eq (.tup i) (.tup j)
      simp only [NestedKey.beq] at q
      rw [← q]
      simp
    rw [e]
    exact kk _ _ F H p (Stp.refl s) (.bl _)⟩
/-- == of texts, of bools -/
theorem od_eqS : OpD X (compareOp .Eq) (fun a b P => ∃ i j, a = .str i ∧ b = .str j ∧ P (.bl (decide (i = j)))) :=
  ⟨_, op_eq, fun F H x y dx dy P Q s rx ry h kk => by
    obtain ⟨i, j, rfl, rfl, p⟩ := h
    cases rx; cases ry
    refine ⟨rfl, ?_⟩
    have e : decide (V.str i = V.str j) = decide (i = j) := by rw [Bool.eq_iff_iff]; simp
    rw [e]
    exact kk _ _ F H p (Stp.refl s) (.bl _)⟩
theorem od_neB : OpD X (compareOp .NotEq) (fun a b P => ∃ i j, a = .bl i ∧ b = .bl j ∧ P (.bl (!decide (i = j)))) :=
  ⟨_, op_ne, fun F H x y dx dy P Q s rx ry h kk => by
    obtain ⟨i, j, rfl, rfl, p⟩ := h
    cases rx; cases ry
    refine ⟨rfl, ?_⟩
    have e : decide (V.bl i = V.bl j) = decide (i = j) := by rw [Bool.eq_iff_iff]; simp
    rw [e]
    exact kk _ _ F H p (Stp.refl s) (.bl _)⟩
/-- is (not) of bools -/
theorem od_isnB : OpD X (compareOp .IsNot) (fun a b P => ∃ i j, a = .bl i ∧ b = .bl j ∧ P (.bl (!decide (i = j)))) :=
  ⟨_, op_notBl, fun F H x y dx dy P Q s rx ry h kk => by
    obtain ⟨i, j, rfl, rfl, p⟩ := h
    cases rx; cases ry
    exact ⟨i, j, rfl, rfl, kk _ _ F H p (Stp.refl s) (.bl _)⟩⟩
/-! ### is None -/
def D.isN : D → Bool
  | .non => true
  | _ => false
theorem rep_isN {P : Program} {w : World} {K : PySem.W.Frag} {F : Hp} {d : D} {v : V} (r : Rep P w K F d v) : decide (v = V.non) = d.isN := by
  cases r <;> first | rfl | (exact decide_eq_false (fun e => by cases e))
theorem od_isN : OpD X (compareOp .Is) (fun a b P => b = .non ∧ P (.bl a.isN)) :=
  ⟨_, op_isN, fun F H x y dx dy P Q s rx ry h kk => by
    obtain ⟨rfl, p⟩ := h
    cases ry
    exact ⟨rfl, by rw [rep_isN rx]; exact kk _ _ F H p (Stp.refl s) (.bl _)⟩⟩
theorem od_notN : OpD X (compareOp .IsNot) (fun a b P => b = .non ∧ P (.bl (!a.isN))) :=
  ⟨_, op_notN, fun F H x y dx dy P Q s rx ry h kk => by
    obtain ⟨rfl, p⟩ := h
    cases ry
    exact ⟨rfl, by rw [rep_isN rx]; exact kk _ _ F H p (Stp.refl s) (.bl _)⟩⟩
/-! ### in, not in -/
theorem flat_ints (is : List Int) : (is.map V.int).all flatV = true := by
  rw [List.all_eq_true]; intro v hv
  obtain ⟨i, _, rfl⟩ := List.mem_map.mp hv
  rfl
theorem inV_ints (i : Int) (is : List Int) : inV (.int i) (is.map V.int) = decide (i ∈ is) := by
  unfold inV
  rw [Bool.eq_iff_iff, List.any_eq_true]
  constructor
  · rintro ⟨v, hv, e⟩
    obtain ⟨j, hj, rfl⟩ := List.mem_map.mp hv
    have : j = i := by simpa [eqV] using e
    rw [← this]; simpa using hj
  · intro h
    have h : i ∈ is := by simpa using h
    exact ⟨.int i, List.mem_map.mpr ⟨i, h, rfl⟩, by simp [eqV]⟩
theorem od_inT : OpD X (compareOp .In) (fun a b P => ∃ (i : Int) (is : List Int), a = .int i ∧ b = .tup (is.map D.int) ∧ P (.bl (decide (i ∈ is)))) :=
  ⟨_, op_in_seq, fun F H x y dx dy P Q s rx ry h kk => by
    obtain ⟨i, is, rfl, rfl, p⟩ := h
    cases rx
    cases ry with
    | @tup a vs _ hq r =>
      have e := r.ints
      subst e
      refine ⟨a, _, rfl, .inr (Same.tupS s hq), rfl, flat_ints is, ?_⟩
      rw [if_neg Bool.false_ne_true, inV_ints]
      exact kk _ _ F H p (Stp.refl s) (.bl _)⟩
theorem od_ninT : OpD X (compareOp .NotIn) (fun a b P => ∃ (i : Int) (is : List Int), a = .int i ∧ b = .tup (is.map D.int) ∧ P (.bl (!decide (i ∈ is)))) :=
  ⟨_, op_notIn_seq, fun F H x y dx dy P Q s rx ry h kk => by
    obtain ⟨i, is, rfl, rfl, p⟩ := h
    cases rx
    cases ry with
    | @tup a vs _ hq r =>
      have e := r.ints
      subst e
      refine ⟨a, _, rfl, .inr (Same.tupS s hq), rfl, flat_ints is, ?_⟩
      rw [if_pos rfl, inV_ints]
      exact kk _ _ F H p (Stp.refl s) (.bl _)⟩
/-- a text in a tuple of texts -/
theorem od_ninS : OpD X (compareOp .NotIn) (fun a b P => ∃ (i : Str) (xs : List Str), a = .str i ∧ b = .tup (xs.map D.str) ∧ i ∈ xs ∧ P (.bl false)) :=
  ⟨_, op_notIn_seq, fun F H x y dx dy P Q s rx ry h kk => by
    obtain ⟨i, is, rfl, rfl, hm, p⟩ := h
    cases rx
    cases ry with
    | @tup a vs _ hq r =>
      have e : vs = is.map V.str := by
        clear hm hq
        induction is generalizing vs with
        | nil => cases r; rfl
        | cons z zs ih =>
          cases r with
          | cons h t => cases h; rw [ih t]; rfl
      subst e
      have fl : (is.map V.str).all flatV = true := by
        rw [List.all_eq_true]; intro v hv
        obtain ⟨i, _, rfl⟩ := List.mem_map.mp hv
        rfl
      refine ⟨a, _, rfl, .inr (Same.tupS s hq), rfl, fl, ?_⟩
      have e : inV (.str i) (is.map V.str) = true := by
        unfold inV
        rw [List.any_eq_true]
        exact ⟨.str i, List.mem_map.mpr ⟨i, hm, rfl⟩, by simp [eqV]⟩
      rw [if_pos rfl, e]
      exact kk _ _ F H p (Stp.refl s) (.bl _)⟩
/-- a key in a list of keys -/
theorem any_keys (k : NestedKey) (ks : List NestedKey) : ((NestedKey.datas ks).any fun z => PyData.eqv z k.data) = decide (k ∈ ks) := by
  rw [datas_map, Bool.eq_iff_iff, List.any_eq_true]
  constructor
  · rintro ⟨z, hz, e⟩
    obtain ⟨j, hj, rfl⟩ := List.mem_map.mp hz
    rw [key_eqv] at e
    rw [← NestedKey.eq_of_beq _ _ e]
    simpa using hj
  · intro h
    have h : k ∈ ks := by simpa using h
    exact ⟨k.data, List.mem_map.mpr ⟨k, h, rfl⟩, by rw [key_eqv]; exact NestedKey.beq_self k⟩
theorem od_inL (C : Cxt X N L A G k) : OpD X (compareOp .In) (fun a b P => ∃ i is, IsK a i ∧ IsL b is ∧ P (.bl (decide (i ∈ is)))) :=
  ⟨_, op_inD C.u65, fun F H x y dx dy P Q s rx ry h kk => by
    obtain ⟨i, is, hi, hl, p⟩ := h
    have ei := hi.eq
    subst ei
    refine ⟨_, _, rep_dp s i x rx, repl_dp s hl ry, hi.shaped, hl.shaped, ?_⟩
    rw [any_keys]
    exact kk _ _ F H p (Stp.refl s) (.bl _)⟩
theorem od_ninL (C : Cxt X N L A G k) : OpD X (compareOp .NotIn) (fun a b P => ∃ i is, IsK a i ∧ IsL b is ∧ P (.bl (!decide (i ∈ is)))) :=
  ⟨_, op_notInD C.u65, fun F H x y dx dy P Q s rx ry h kk => by
    obtain ⟨i, is, hi, hl, p⟩ := h
    have ei := hi.eq
    subst ei
    refine ⟨_, _, rep_dp s i x rx, repl_dp s hl ry, hi.shaped, hl.shaped, ?_⟩
    rw [any_keys]
    exact kk _ _ F H p (Stp.refl s) (.bl _)⟩
end
end W3
end
section
set_option Elab.async false
set_option linter.all false
set_option maxRecDepth 100000
set_option maxHeartbeats 2000000
/-! LD: subscripts, slices, fields, calls over data. -/
namespace W3
open PySem PySem.Spec PyProof.Rows L2

/-! ### subscripts -/
structure IxD (X : Cx) (g : D → D → (D → Prop) → Prop) : Prop where
  rule : ∃ r : R2, IxR X r ∧ ∀ (F H : Hp) (x y : V) (dx dy : D) (P : D → Prop) (Q : VK), Same F H → RepX X F dx x → RepX X F dy y → g dx dy P → (∀ d v F' H', P d → Stp F H F' H' → RepX X F' d v → Q v H') → r x y H Q
theorem atI_rep {P : Program} {w : World} {K : PySem.W.Frag} {F : Hp} {ds : List D} {vs : List V} {i : Int} {d : D} (r : Reps P w K F ds vs) (h : atI ds i = some d) : ∃ v, atI vs i = some v ∧ Rep P w K F d v := by
  unfold atI at h ⊢
  rw [← r.length]
  cases e : ixN ds.length i with
  | none => rw [e] at h; cases h
  | some j =>
    rw [e] at h
    obtain ⟨v, h1, h2⟩ := r.get (i := j) (d := d) h
    exact ⟨v, h1, h2⟩
/-- the value at an int key -/
def dkGet (xs : List (Int × D)) (i : Int) : Option D := (xs.find? fun p => decide (p.1 = i)).map (·.2)
theorem dkGet_rep {P : Program} {w : World} {K : PySem.W.Frag} {F : Hp} {i : Int} : ∀ {xs : List (Int × D)} {kvs : List (Key × V)}, RepK P w K F xs kvs →
    (dkGet xs i = none ∧ valV kvs (Sum.inl i) = none) ∨ ∃ d v, dkGet xs i = some d ∧ valV kvs (Sum.inl i) = some v ∧ Rep P w K F d v
  | _, _, .nil => .inl ⟨rfl, rfl⟩
  | _, _, .cons (i := j) (d := d) (v := v) (xs := xs) (kvs := kvs) h t => by
    unfold dkGet valV
    rw [List.find?_cons, List.find?_cons]
    by_cases e : j = i
    · have e2 : (Sum.inl j : Key) = Sum.inl i := by rw [e]
      rw [decide_eq_true e, decide_eq_true e2]
      exact .inr ⟨d, v, rfl, rfl, h⟩
    · have e2 : ¬ (Sum.inl j : Key) = Sum.inl i := fun q => e (Sum.inl.inj q)
      rw [decide_eq_false e, decide_eq_false e2]
      exact dkGet_rep t
theorem op_inDK {X : Cx} (hu : X.A.units + 1 < cLine) : OpR X (compareOp .In) (fun x y H Q => ∃ a o, y = .ref a ∧ DGet H a x o ∧ Q (.bl o.isSome) H) := by
  intro pins s σ H x y v u Q I rx ry h
  obtain ⟨a, o, rfl, g, q⟩ := h
  cases ry
  exact d_in hu I g rx fun s3 I3 => ⟨.bl o.isSome, H, I3, rfl, q⟩
theorem op_ninDK {X : Cx} (hu : X.A.units + 1 < cLine) : OpR X (compareOp .NotIn) (fun x y H Q => ∃ a o, y = .ref a ∧ DGet H a x o ∧ Q (.bl (!o.isSome)) H) := by
  intro pins s σ H x y v u Q I rx ry h
  obtain ⟨a, o, rfl, g, q⟩ := h
  cases ry
  exact d_notIn hu I g rx fun s3 I3 => ⟨.bl (!o.isSome), H, I3, rfl, q⟩
/-- a part of a slice -/
def cutD (xs : List D) (lo hi : Option Int) : List D := (xs.drop (HT.sIx xs.length 0 lo)).take (HT.sIx xs.length xs.length hi - HT.sIx xs.length 0 lo)
theorem cutD_rep {P : Program} {w : World} {K : PySem.W.Frag} {F : Hp} {ds : List D} {vs : List V} {lo hi : Option Int} (r : Reps P w K F ds vs) : Reps P w K F (cutD ds lo hi) (cutV vs lo hi) := by
  unfold cutD cutV
  rw [← r.length]
  exact (r.drop _).take _

section
variable {X : Cx} {F0 H0 : Hp} {ρ : Rho} {N L A G : List Str} {k : Nat} {P : D → Prop} {PL : List D → Prop} {a b c e o : Expr} {es : List Expr} {pos apos p2 : Pos}
theorem wd_ix {g : D → D → (D → Prop) → Prop} (o : IxD X g) (h : WD X F0 H0 ρ a fun da => WD X F0 H0 ρ b fun db => g da db P) (hs : PlainIx b := by intro _ _; rfl) : WD X F0 H0 ρ (.Subscript a b pos) P := fun σ F H Q E kk => by
  obtain ⟨r, hr, hg⟩ := o.rule
  refine run_pe (pe_ix hr pe_run pe_run hs) ?_
  refine h σ F H _ E fun da x F1 H1 h1 s1 r1 => ?_
  refine h1 σ F1 H1 _ (E.stp s1) fun db y F2 H2 h2 s2 r2 => ?_
  exact hg F2 H2 x y da db P Q s2.sub (r1.mono s2.ff) r2 h2 fun d v F3 H3 p s3 r3 => kk d v F3 H3 p ((s1.trans s2).trans s3) r3
theorem xd_tup : IxD X (fun a b P => ∃ xs i d, a = .tup xs ∧ b = .int i ∧ atI xs i = some d ∧ P d) :=
  ⟨_, ix_tup, fun F H x y dx dy P Q s rx ry h kk => by
    obtain ⟨xs, i, d, rfl, rfl, hi, p⟩ := h
    cases ry
    cases rx with
    | tup hq r =>
      obtain ⟨v, h1, h2⟩ := atI_rep r hi
      exact ⟨_, _, i, v, rfl, rfl, Same.tupS s hq, h1, kk d v F H p (Stp.refl s) h2⟩⟩
theorem xd_lst : IxD X (fun a b P => ∃ xs i d, a = .lst xs ∧ b = .int i ∧ atI xs i = some d ∧ P d) :=
  ⟨_, ix_list, fun F H x y dx dy P Q s rx ry h kk => by
    obtain ⟨xs, i, d, rfl, rfl, hi, p⟩ := h
    cases ry
    cases rx with
    | lst hq r =>
      obtain ⟨v, h1, h2⟩ := atI_rep r hi
      exact ⟨_, _, i, v, rfl, rfl, SqL.of (s _ _ hq), h1, kk d v F H p (Stp.refl s) h2⟩⟩
theorem xd_scr : IxD X (fun a b P => ∃ ns i n, a = .scr ns ∧ b = .int i ∧ atI ns i = some n ∧ P (.int n)) :=
  ⟨_, ix_list, fun F H x y dx dy P Q s rx ry h kk => by
    obtain ⟨xs, i, d, rfl, rfl, hi, p⟩ := h
    cases ry
    cases rx with
    | scr hq l =>
      refine ⟨_, _, i, .int d, rfl, rfl, Same.seq s hq, ?_, kk _ _ F H p (Stp.refl s) (.int d)⟩
      unfold atI at hi ⊢
      rw [List.length_map]
      cases e : ixN xs.length i with
      | none => rw [e] at hi; cases hi
      | some j => rw [e] at hi; show (xs.map V.int)[j]? = _; rw [List.getElem?_map, show xs[j]? = some d from hi]; rfl⟩
/-- a dict by ints, read -/
theorem wd_ixK (C : Cxt X N L A G k) (h : WD X F0 H0 ρ a fun da => WD X F0 H0 ρ b fun db => ∃ xs i d, da = .dk xs ∧ db = .int i ∧ dkGet xs i = some d ∧ P d) (hs : NoSl b := by intro _ _; rfl) : WD X F0 H0 ρ (.Subscript a b pos) P := fun σ F H Q E kk => by
  refine run_pe (pe_dget C.u1 pe_run pe_run hs) ?_
  refine h σ F H _ E fun da x F1 H1 h1 s1 r1 => ?_
  refine h1 σ F1 H1 _ (E.stp s1) fun db y F2 H2 h2 s2 r2 => ?_
  obtain ⟨xs, i, d, rfl, rfl, hg, p⟩ := h2
  cases r2
  cases r1 with
  | @dk p' o kvs _ hq r =>
    have r' := r.mono s2.ff
    rcases dkGet_rep (i := i) r' with ⟨e, _⟩ | ⟨d', v, e1, e2, r3⟩
    · rw [e] at hg; cases hg
    · rw [e1] at hg; cases hg
      exact ⟨_, v, rfl, .inl ⟨kvs, .inl i, .inr ⟨o, s2.sub _ _ (s2.ff _ _ hq)⟩, rfl, e2.symm⟩, kk d v F2 H2 p (s1.trans s2) r3⟩
theorem od_inK (C : Cxt X N L A G k) : OpD X (compareOp .In) (fun a b P => ∃ i xs, a = .int i ∧ b = .dk xs ∧ P (.bl (dkGet xs i).isSome)) :=
  ⟨_, op_inDK C.u1, fun F H x y dx dy P Q s rx ry h kk => by
    obtain ⟨i, xs, rfl, rfl, p⟩ := h
    cases rx
    cases ry with
    | @dk p' o kvs _ hq r =>
      refine ⟨_, valV kvs (.inl i), rfl, .inl ⟨kvs, .inl i, .inr ⟨o, s _ _ hq⟩, rfl, rfl⟩, ?_⟩
      have e : (valV kvs (Sum.inl i)).isSome = (dkGet xs i).isSome := by
        rcases dkGet_rep (i := i) r with ⟨e, e'⟩ | ⟨d', v, e1, e2, r3⟩
        · rw [e, e']; rfl
        · rw [e1, e2]; rfl
      rw [e]
      exact kk _ _ F H p (Stp.refl s) (.bl _)⟩
theorem od_ninK (C : Cxt X N L A G k) : OpD X (compareOp .NotIn) (fun a b P => ∃ i xs, a = .int i ∧ b = .dk xs ∧ P (.bl (!(dkGet xs i).isSome))) :=
  ⟨_, op_ninDK C.u1, fun F H x y dx dy P Q s rx ry h kk => by
    obtain ⟨i, xs, rfl, rfl, p⟩ := h
    cases rx
    cases ry with
    | @dk p' o kvs _ hq r =>
      refine ⟨_, valV kvs (.inl i), rfl, .inl ⟨kvs, .inl i, .inr ⟨o, s _ _ hq⟩, rfl, rfl⟩, ?_⟩
      have e : (valV kvs (Sum.inl i)).isSome = (dkGet xs i).isSome := by
        rcases dkGet_rep (i := i) r with ⟨e, e'⟩ | ⟨d', v, e1, e2, r3⟩
        · rw [e, e']; rfl
        · rw [e1, e2]; rfl
      rw [e]
      exact kk _ _ F H p (Stp.refl s) (.bl _)⟩

/-! ### slices -/
def WO (X : Cx) (F0 H0 : Hp) (ρ : Rho) (e : Option Expr) (PO : Option Int → Prop) : Prop := ∃ t : TO, L2.PO X e t ∧ ∀ (σ : L2.St) (F H : Hp) (Q : Option Int → Hp → Prop), FmX X F0 H0 ρ σ F H → (∀ i F' H', PO i → Stp F H F' H' → Q i H') → t σ H Q
theorem wo_none {PO : Option Int → Prop} (q : PO none) : WO X F0 H0 ρ none PO := ⟨_, po_none, fun σ F H Q E kk => kk none F H q E.st⟩
theorem wo_some {PO : Option Int → Prop} (h : WD X F0 H0 ρ e fun d => ∃ i, d = .int i ∧ PO (some i)) : WO X F0 H0 ρ (some e) PO := ⟨_, po_some pe_run, fun σ F H Q E kk => h σ F H _ E fun d v F1 H1 p s r => by
  obtain ⟨i, rfl, p⟩ := p
  cases r
  exact ⟨i, rfl, kk _ F1 H1 p s⟩⟩
/-- of a tuple -/
theorem wd_sliceT {lo hi : Option Expr} {POl POh : Option Int → Prop} (h : WD X F0 H0 ρ e fun d => ∃ xs, d = .tup xs ∧ ∀ l u, POl l → POh u → P (.tup (cutD xs l u))) (hl : WO X F0 H0 ρ lo POl) (hh : WO X F0 H0 ρ hi POh) : WD X F0 H0 ρ (.Subscript e (.Slice lo hi none p2) pos) P := fun σ F H Q E kk => by
  obtain ⟨tl, pl, hl⟩ := hl
  obtain ⟨th, ph, hh⟩ := hh
  refine run_pe (pe_slice sl_tupA pe_run pl ph) ?_
  refine h σ F H _ E fun d v F1 H1 h1 s1 r1 => ?_
  refine hl σ F1 H1 _ (E.stp s1) fun l F2 H2 h2 s2 => ?_
  refine hh σ F2 H2 _ (E.stp (s1.trans s2)) fun u F3 H3 h3 s3 => ?_
  obtain ⟨xs, rfl, p⟩ := h1
  cases r1 with
  | tup hq r =>
    have r' := r.mono (s2.ff.trans s3.ff)
    have hq' := Same.tupS ((s2.ff.trans s3.ff).trans s3.sub) hq
    refine ⟨_, _, rfl, hq', fun w => ?_, fun w q hq0 => ?_⟩
    · refine kk _ _ F3 H3 (p l u h2 h3) ((s1.trans s2).trans s3) (.tup (Same.tupS (s2.ff.trans s3.ff) hq) ?_)
      have e : cutD xs l u = xs := by
        unfold cutD
        rw [r.length, w.1, w.2, List.drop_zero, ← r.length]
        simp
      rw [e]; exact r'
    · exact kk _ _ _ _ (p l u h2 h3) (((s1.trans s2).trans s3).trans (Stp.new s3.sub hq0)) (.tup (SqT.of upd_same) ((cutD_rep r').mono (Stp.new s3.sub hq0).ff))
/-- of a list: a new one -/
theorem wd_sliceL {lo hi : Option Expr} {POl POh : Option Int → Prop} (h : WD X F0 H0 ρ e fun d => ∃ xs, d = .lst xs ∧ ∀ l u, POl l → POh u → P (.lst (cutD xs l u))) (hl : WO X F0 H0 ρ lo POl) (hh : WO X F0 H0 ρ hi POh) : WD X F0 H0 ρ (.Subscript e (.Slice lo hi none p2) pos) P := fun σ F H Q E kk => by
  obtain ⟨tl, pl, hl⟩ := hl
  obtain ⟨th, ph, hh⟩ := hh
  refine run_pe (pe_slice sl_list pe_run pl ph) ?_
  refine h σ F H _ E fun d v F1 H1 h1 s1 r1 => ?_
  refine hl σ F1 H1 _ (E.stp s1) fun l F2 H2 h2 s2 => ?_
  refine hh σ F2 H2 _ (E.stp (s1.trans s2)) fun u F3 H3 h3 s3 => ?_
  obtain ⟨xs, rfl, p⟩ := h1
  cases r1 with
  | lst hq r =>
    have r' := r.mono (s2.ff.trans s3.ff)
    exact ⟨_, _, rfl, SqL.of (s3.sub _ _ ((s2.ff.trans s3.ff) _ _ hq)), fun q hq0 => kk _ _ _ _ (p l u h2 h3) (((s1.trans s2).trans s3).trans (Stp.new s3.sub hq0)) (.lst upd_same ((cutD_rep r').mono (Stp.new s3.sub hq0).ff))⟩
/-- of the script -/
theorem wd_sliceS {lo hi : Option Expr} {POl POh : Option Int → Prop} (h : WD X F0 H0 ρ e fun d => ∃ ns, d = .scr ns ∧ ∀ l u, POl l → POh u → P (.lst (cutD (ns.map D.int) l u))) (hl : WO X F0 H0 ρ lo POl) (hh : WO X F0 H0 ρ hi POh) : WD X F0 H0 ρ (.Subscript e (.Slice lo hi none p2) pos) P := fun σ F H Q E kk => by
  obtain ⟨tl, pl, hl⟩ := hl
  obtain ⟨th, ph, hh⟩ := hh
  refine run_pe (pe_slice sl_list pe_run pl ph) ?_
  refine h σ F H _ E fun d v F1 H1 h1 s1 r1 => ?_
  refine hl σ F1 H1 _ (E.stp s1) fun l F2 H2 h2 s2 => ?_
  refine hh σ F2 H2 _ (E.stp (s1.trans s2)) fun u F3 H3 h3 s3 => ?_
  obtain ⟨xs, rfl, p⟩ := h1
  cases r1 with
  | scr hq l63 =>
    exact ⟨_, _, rfl, Same.seq ((s2.ff.trans s3.ff).trans s3.sub) hq, fun q hq0 => kk _ _ _ _ (p l u h2 h3) (((s1.trans s2).trans s3).trans (Stp.new s3.sub hq0)) (.lst upd_same (cutD_rep (Reps.ofInts _)))⟩
/-- xs[::-1] -/
theorem wd_revL {kk' : Nat} {q1 q2 q3 : Pos} (h : WD X F0 H0 ρ e fun d => ∃ xs, d = .lst xs ∧ P (.lst xs.reverse)) : WD X F0 H0 ρ (.Subscript e (.Slice none none (some (.UnaryOp .USub (.Constant (.int 1) kk' q1) q2)) q3) pos) P := fun σ F H Q E kk =>
  run_pe (pe_revL pe_run) (h σ F H _ E fun d v F1 H1 h1 s1 r1 => by
    obtain ⟨xs, rfl, p⟩ := h1
    cases r1 with
    | lst hq r => exact ⟨_, _, rfl, SqL.of (s1.sub _ _ hq), fun q hq0 => kk _ _ _ _ p (s1.trans (Stp.new s1.sub hq0)) (.lst upd_same (r.reverse.mono (Stp.new s1.sub hq0).ff))⟩)

/-! ### fields -/
theorem repF_look {f : Str} {d : D} {P : Program} {w : World} {K : PySem.W.Frag} {F : Hp} : ∀ {xs : List (Str × D)} {fs : List (Str × V)}, RepF P w K F xs fs → xs.lookup f = some d → ∃ v, fs.lookup f = some v ∧ Rep P w K F d v
  | _, _, .nil, e => by cases e
  | _, _, .cons (f := g) (d := d') (v := v) h t, e => by
    rw [List.lookup_cons] at e ⊢
    cases q : f == g with
    | true => rw [q] at e; cases e; exact ⟨_, rfl, h⟩
    | false => rw [q] at e; exact repF_look t e
theorem repF_none {f : Str} {P : Program} {w : World} {K : PySem.W.Frag} {F : Hp} : ∀ {xs : List (Str × D)} {fs : List (Str × V)}, RepF P w K F xs fs → xs.lookup f = none → fs.lookup f = none
  | _, _, .nil, e => rfl
  | _, _, .cons (f := g) (d := d') (v := v) h t, e => by
    rw [List.lookup_cons] at e ⊢
    cases q : f == g with
    | true => rw [q] at e; cases e
    | false => rw [q] at e; exact repF_none t e
theorem wd_fld {f : Str} (h : WD X F0 H0 ρ e fun d => ∃ C fs d', d = .ob C fs ∧ Cls X.K C ∧ NoAttr X.K C f ∧ fs.lookup f = some d' ∧ P d') (hb : attributeBase e f X.env (eval e X.env) = eval e X.env := by rfl) : WD X F0 H0 ρ (.Attribute e f pos) P := fun σ F H Q E kk =>
  run_pe (pe_fld pe_run hb) (h σ F H _ E fun d v F1 H1 h1 s1 r1 => by
    obtain ⟨C, fs, d', rfl, c, n, hl, p⟩ := h1
    cases r1 with
    | ob hq r =>
      obtain ⟨v, h2, r2⟩ := repF_look r hl
      exact ⟨_, C, _, _, v, rfl, s1.sub _ _ hq, c, n, h2, kk d' v F1 H1 p s1 r2⟩)

/-! ### calls of built-ins -/
theorem wd_callB {x : Str} {id : String} {g : List D → (D → Prop) → Prop} {p : Pos} (hc : CallD X (.builtin id) g) (C : Cxt X N L A G k) (m : x ∈ G) (hm : X.mg x = none) (hv : bootBuiltins x = some (.builtin id)) (h : WA X F0 H0 ρ (e :: es) fun ds => g ds P)
    (he : starEach (e :: es) X.env = (false, eval e X.env) :: starEach es X.env := by rfl) (hpl : (backTo pos (starEach es X.env)).any (·.1) = false := by rfl) : WD X F0 H0 ρ (.Call (.Name x p) (e :: es) [] pos) P := fun σ F H Q E kk => by
  obtain ⟨gl, h1, h2⟩ := C.glo x m
  obtain ⟨r, hr, hg⟩ := hc.rule
  refine run_pe (pe_callB hr gl hm hv pa_run h2 h1 he hpl) ?_
  refine h σ F H _ E fun ds vs F1 H1 p s1 r1 => ?_
  exact hg F1 H1 vs ds P Q s1.sub r1 p fun d v F2 H2 p2 s2 r2 => kk d v F2 H2 p2 (s1.trans s2) r2
theorem wd_callTy {x : Str} {T : String} {g : List D → (D → Prop) → Prop} {p : Pos} (hc : CallD X (.type T) g) (C : Cxt X N L A G k) (m : x ∈ G) (hm : X.mg x = none) (hv : bootBuiltins x = some (.type T)) (h : WA X F0 H0 ρ (e :: es) fun ds => g ds P)
    (he : starEach (e :: es) X.env = (false, eval e X.env) :: starEach es X.env := by rfl) (hpl : (backTo pos (starEach es X.env)).any (·.1) = false := by rfl) : WD X F0 H0 ρ (.Call (.Name x p) (e :: es) [] pos) P := fun σ F H Q E kk => by
  obtain ⟨gl, h1, h2⟩ := C.glo x m
  obtain ⟨r, hr, hg⟩ := hc.rule
  refine run_pe (pe_callTy hr gl hm hv pa_run h2 h1 he hpl) ?_
  refine h σ F H _ E fun ds vs F1 H1 p s1 r1 => ?_
  exact hg F1 H1 vs ds P Q s1.sub r1 p fun d v F2 H2 p2 s2 r2 => kk d v F2 H2 p2 (s1.trans s2) r2
theorem reps1 {P : Program} {w : World} {K : PySem.W.Frag} {F : Hp} {d : D} {vs : List V} (r : Reps P w K F [d] vs) : ∃ v, vs = [v] ∧ Rep P w K F d v := by
  cases r with
  | cons h t => cases t; exact ⟨_, rfl, h⟩
theorem reps2 {P : Program} {w : World} {K : PySem.W.Frag} {F : Hp} {d d' : D} {vs : List V} (r : Reps P w K F [d, d'] vs) : ∃ v v', vs = [v, v'] ∧ Rep P w K F d v ∧ Rep P w K F d' v' := by
  cases r with
  | cons h t =>
    obtain ⟨v', rfl, h'⟩ := reps1 t
    exact ⟨_, _, rfl, h, h'⟩
theorem cd_lenT : CallD X (.builtin "len") (fun ds P => ∃ xs, ds = [.tup xs] ∧ P (.int xs.length)) :=
  ⟨_, call_len_seq, fun F H vs ds P Q s r h kk => by
    obtain ⟨xs, rfl, p⟩ := h
    obtain ⟨v, rfl, r1⟩ := reps1 r; clear r
    cases r1 with
    | tup hq r => exact ⟨_, _, rfl, .inr (Same.tupS s hq), by rw [← r.length]; exact kk _ _ F H p (Stp.refl s) (.int _)⟩⟩
theorem cd_lenL : CallD X (.builtin "len") (fun ds P => ∃ xs, ds = [.lst xs] ∧ P (.int xs.length)) :=
  ⟨_, call_len_seq, fun F H vs ds P Q s r h kk => by
    obtain ⟨xs, rfl, p⟩ := h
    obtain ⟨v, rfl, r1⟩ := reps1 r; clear r
    cases r1 with
    | lst hq r => exact ⟨_, _, rfl, .inl (SqL.of (s _ _ hq)), by rw [← r.length]; exact kk _ _ F H p (Stp.refl s) (.int _)⟩⟩
theorem cd_lenS : CallD X (.builtin "len") (fun ds P => ∃ ns, ds = [.scr ns] ∧ P (.int ns.length)) :=
  ⟨_, call_len_seq, fun F H vs ds P Q s r h kk => by
    obtain ⟨xs, rfl, p⟩ := h
    obtain ⟨v, rfl, r1⟩ := reps1 r; clear r
    cases r1 with
    | scr hq l => exact ⟨_, _, rfl, .inl (Same.seq s hq), by rw [List.length_map]; exact kk _ _ F H p (Stp.refl s) (.int _)⟩⟩
theorem cd_all (C : Cxt X N L A G k) : CallD X (.builtin "all") (fun ds P => ∃ bs : List Bool, ds = [.lst (bs.map D.bl)] ∧ P (.bl (bs.all id))) :=
  ⟨_, cr_all C.calm, fun F H vs ds P Q s r h kk => by
    obtain ⟨xs, rfl, p⟩ := h
    obtain ⟨v, rfl, r1⟩ := reps1 r; clear r
    cases r1 with
    | lst hq r =>
      have e := r.bls
      subst e
      exact ⟨_, xs, rfl, SqL.of (s _ _ hq), kk _ _ F H p (Stp.refl s) (.bl _)⟩⟩
theorem cd_sum (C : Cxt X N L A G k) : CallD X (.builtin "sum") (fun ds P => ∃ is : List Int, ds = [.lst (is.map D.int)] ∧ P (.int is.sum)) :=
  ⟨_, cr_sum C.calm, fun F H vs ds P Q s r h kk => by
    obtain ⟨xs, rfl, p⟩ := h
    obtain ⟨v, rfl, r1⟩ := reps1 r; clear r
    cases r1 with
    | lst hq r =>
      have e := r.ints
      subst e
      exact ⟨_, xs, rfl, SqL.of (s _ _ hq), kk _ _ F H p (Stp.refl s) (.int _)⟩⟩
theorem cd_min (C : Cxt X N L A G k) : CallD X (.builtin "min") (fun ds P => ∃ is : List Int, ds = [.lst (is.map D.int)] ∧ 0 < is.length ∧ ∀ m, m ∈ is → (∀ y ∈ is, m ≤ y) → P (.int m)) :=
  ⟨_, cr_min C.calm, fun F H vs ds P Q s r h kk => by
    obtain ⟨xs, rfl, h0, p⟩ := h
    obtain ⟨v, rfl, r1⟩ := reps1 r; clear r
    cases r1 with
    | lst hq r =>
      have e := r.ints
      subst e
      exact ⟨_, xs, rfl, SqL.of (s _ _ hq), h0, fun m hm hle => kk _ _ F H (p m hm hle) (Stp.refl s) (.int _)⟩⟩
theorem cd_abs : CallD X (.builtin "abs") (fun ds P => ∃ i, ds = [.int i] ∧ P (.int (if i < 0 then -i else i))) :=
  ⟨_, call_abs, fun F H vs ds P Q s r h kk => by
    obtain ⟨i, rfl, p⟩ := h
    obtain ⟨v, rfl, r1⟩ := reps1 r; clear r
    cases r1
    exact ⟨i, rfl, kk _ _ F H p (Stp.refl s) (.int _)⟩⟩
theorem cd_int : CallD X (.type "int") (fun ds P => ∃ i, ds = [.int i] ∧ P (.int i)) :=
  ⟨_, call_int1, fun F H vs ds P Q s r h kk => by
    obtain ⟨i, rfl, p⟩ := h
    obtain ⟨v, rfl, r1⟩ := reps1 r; clear r
    cases r1
    exact .inl ⟨i, rfl, kk _ _ F H p (Stp.refl s) (.int _)⟩⟩
theorem cd_listL : CallD X (.type "list") (fun ds P => ∃ xs, (ds = [.lst xs] ∨ ds = [.tup xs]) ∧ P (.lst xs)) :=
  ⟨_, call_list_of, fun F H vs ds P Q s r h kk => by
    obtain ⟨xs, h, p⟩ := h
    rcases h with rfl | rfl
    · obtain ⟨v, rfl, r1⟩ := reps1 r; clear r
      cases r1 with
      | lst hq r => exact ⟨_, _, rfl, .inl (SqL.of (s _ _ hq)), fun q hq0 => kk _ _ _ _ p (Stp.new s hq0) (.lst upd_same (r.mono (Stp.new s hq0).ff))⟩
    · obtain ⟨v, rfl, r1⟩ := reps1 r; clear r
      cases r1 with
      | tup hq r => exact ⟨_, _, rfl, .inr (Same.tupS s hq), fun q hq0 => kk _ _ _ _ p (Stp.new s hq0) (.lst upd_same (r.mono (Stp.new s hq0).ff))⟩⟩
theorem cd_tuple : CallD X (.type "tuple") (fun ds P => ∃ xs, (ds = [.lst xs] ∨ ds = [.tup xs]) ∧ P (.tup xs)) :=
  ⟨_, call_tuple_of, fun F H vs ds P Q s r h kk => by
    obtain ⟨xs, h, p⟩ := h
    rcases h with rfl | rfl
    · obtain ⟨v, rfl, r1⟩ := reps1 r; clear r
      cases r1 with
      | lst hq r => exact ⟨_, _, rfl, .inl ⟨SqL.of (s _ _ hq), fun q hq0 => kk _ _ _ _ p (Stp.new s hq0) (.tup (SqT.of upd_same) (r.mono (Stp.new s hq0).ff))⟩⟩
    · obtain ⟨v, rfl, r1⟩ := reps1 r; clear r
      cases r1 with
      | tup hq r => exact ⟨_, _, rfl, .inr ⟨Same.tupS s hq, kk _ _ F H p (Stp.refl s) (.tup hq r)⟩⟩⟩
theorem cd_sortedK (C : Cxt X N L A G k) : CallD X (.builtin "sorted") (fun ds P => ∃ xs : List (Int × D), ds = [.dk xs] ∧ xs.length < 64 ∧ ∀ ys : List Int, ys.Perm (xs.map (·.1)) → ys.Pairwise (· ≤ ·) → P (.lst (ys.map D.int))) :=
  ⟨_, call_sortedDI C.calm, fun F H vs ds P Q s r h kk => by
    obtain ⟨xs, rfl, hl, p⟩ := h
    obtain ⟨v, rfl, r1⟩ := reps1 r; clear r
    cases r1 with
    | @dk a o kvs _ hq r =>
      have e : kvs.map (·.1) = (xs.map (·.1)).map Sum.inl := by
        clear hq hl p
        induction xs generalizing kvs with
        | nil => cases r; rfl
        | cons x xs ih =>
          cases r with
          | cons h t => rw [List.map_cons, List.map_cons, List.map_cons, ih t]
      exact ⟨a, kvs, xs.map (·.1), rfl, .inr ⟨o, s _ _ hq⟩, e, by rw [List.length_map]; exact hl, fun ys q hp hs hq0 => kk _ _ _ _ (p ys hp hs) (Stp.new s hq0) (.lst upd_same (Reps.ofInts ys))⟩⟩
/-- list(range(n)) -/
theorem wd_listRg {x y : Str} {p1 p2 : Pos} (C : Cxt X N L A G k) (m : ("list" : Str) ∈ G) (hm : X.mg "list" = none) (m2 : ("range" : Str) ∈ G) (hm2 : X.mg "range" = none) (h : WD X F0 H0 ρ e fun d => ∃ n : Nat, d = .int n ∧ n ≤ 1000000 ∧ P (.lst ((List.range n).map fun i => .int (i : Nat))))
    (na : starEach [e] X.env = (false, eval e X.env) :: starEach [] X.env := by rfl) (na2 : ∀ a, starEach [(.Call (.Name "range" p1) [e] [] a)] X.env = (false, eval (.Call (.Name "range" p1) [e] [] a) X.env) :: starEach [] X.env := by intro _; rfl) : WD X F0 H0 ρ (.Call (.Name "list" p2) [.Call (.Name "range" p1) [e] [] apos] [] pos) P := fun σ F H Q E kk => by
  refine run_pe (pe_listRg C.calm (C.glo _ m).1 hm (prg_1 (C.glo _ m2).1 hm2 pe_run na) (na2 _)) ?_
  refine h σ F H _ E fun d v F1 H1 h1 s1 r1 => ?_
  obtain ⟨n, rfl, hn, p⟩ := h1
  cases r1
  refine ⟨n, rfl, RgOk.of_le (by omega) (by omega) (by omega) (by omega), fun q hq => ?_⟩
  refine kk _ _ _ _ p (s1.trans (Stp.new s1.sub hq)) (.lst upd_same ?_)
  have e : rgV 0 (n : Int) = ((List.range n).map fun i => ((i : Nat) : Int)).map V.int := by
    unfold rgV
    rw [List.map_map]
    have : ((n : Int) - 0).toNat = n := by omega
    rw [this]
    exact List.map_congr_left fun i _ => by simp
  have e2 : ((List.range n).map fun i => D.int ((i : Nat) : Int)) = ((List.range n).map fun i => ((i : Nat) : Int)).map D.int := by rw [List.map_map]; rfl
  rw [e, e2]
  exact Reps.ofInts _
end
end W3
end
section
set_option Elab.async false
set_option linter.all false
set_option maxRecDepth 100000
set_option maxHeartbeats 2000000
/-! LE: contracts of defs and methods, isinstance, dict(rows).get, a new instance. -/
namespace W3
open PySem PySem.Spec PyProof.Rows L2

/-- what a def does: its arguments' data, what is wanted of the answer's -/
abbrev Ct := List D → (D → Prop) → Prop
def spC (P : Program) (w : World) (K : PySem.W.Frag) (n : Nat) (C : Ct) : Sp := fun vs H Q _ => ∃ (F : Hp) (ds : List D) (R : D → Prop), Same F H ∧ Reps P w K F ds vs ∧ ds.length = n ∧ C ds R ∧ ∀ d v F' H', R d → Stp F H F' H' → Rep P w K F' d v → Q v H'
/-- the def of that name keeps the contract -/
structure FnT (P : Program) (w : World) (K : PySem.W.Frag) (mg : Str → Option Value) (base : Heap) (x : Str) (k n : Nat) (C : Ct) : Prop where
  ex : ∃ (f : Addr) (fd : FuncData) (ps : List Str), mg x = some (.ref f) ∧ PySem.W.keepIn K (.ref f) = true ∧ Binds K fd ps [] ∧ FnOk P w K mg base CX0 k f fd ps (spC P w K n C)
/-- the class's method keeps the contract (the object first) -/
structure MtT (P : Program) (w : World) (K : PySem.W.Frag) (mg : Str → Option Value) (base : Heap) (C : Addr) (m : Str) (k n : Nat) (Cc : Ct) : Prop where
  cl : Cls K C
  ex : ∃ (f : Addr) (fd : FuncData) (ps : List Str), Meth K C m f ∧ Binds K fd ps [] ∧ FnOk P w K mg base CX0 k f fd ps (spC P w K n Cc)
abbrev FnX (X : Cx) (x : Str) (k n : Nat) (C : Ct) : Prop := FnT X.prog X.w X.K X.mg X.base x k n C
abbrev MtX (X : Cx) (C : Addr) (m : Str) (k n : Nat) (Cc : Ct) : Prop := MtT X.prog X.w X.K X.mg X.base C m k n Cc
/-- what __init__ does: the arguments' data, what is wanted of the fields -/
abbrev CtI := List D → (List (Str × D) → Prop) → Prop
def spI (P : Program) (w : World) (K : PySem.W.Frag) (C : Addr) (n : Nat) (Ci : CtI) : Sp := fun vs H Q _ => ∃ (H0 F : Hp) (x dx : Addr) (ds : List D) (ws : List V) (R : List (Str × D) → Prop), H0 x = none ∧ H0 dx = none ∧ dx ≠ x ∧ H = upd (upd H0 dx (.own x)) x (.ins C dx []) ∧
  vs = .ref x :: ws ∧ Same F H0 ∧ Reps P w K F ds ws ∧ ds.length = n ∧ Ci ds R ∧
  ∀ fs fvs dx' F' H', R fs → Same F F' → Same H0 H' → Same F' H' → (∀ b o, H0 b = some o → F b = none → F' b = none) → F' x = none → H' x = some (.ins C dx' fvs) → RepF P w K F' fs fvs → Q .non H'
structure MkT (P : Program) (w : World) (K : PySem.W.Frag) (mg : Str → Option Value) (base : Heap) (x : Str) (C : Addr) (k n : Nat) (Ci : CtI) : Prop where
  gl : mg x = some (.ref C)
  ex : ∃ (f : Addr) (fd : FuncData) (ps : List Str), Mk K C f ∧ Binds K fd ps [] ∧ FnOk P w K mg base CX0 k f fd ps (spI P w K C n Ci)

theorem call_tuple_exact {X : Cx} : CallR X (.type "tuple") (fun xs H Q => ∃ p ys, xs = [.ref p] ∧ SqL X.K H p ys ∧ ∀ l o, H l = none → o.dict = none → Q (.ref l) (upd H l (.frz o (.tup ys)))) := by
  intro pins s σ H xs us Q I r h
  obtain ⟨p, ys, rfl, hq, q⟩ := h
  obtain ⟨u, rfl, rx⟩ := vals1 r
  cases rx
  obtain ⟨its, r', pl, hz⟩ := I.list hq
  have hlen := r'.length
  refine PySem.call_tuple_list pl.isList (fun h' kp => ?_) (by simp only [List.size_toArray] <;> omega)
  have I1 : Inv X pins σ H { s with heap := h' } := I.kept (t' := s.toks) kp
  have I2 : Inv X pins σ (upd H h'.objs.size (.frz { cls := .type "tuple", data := .seq its.toArray } (.tup ys))) { s with heap := h'.push { cls := .type "tuple", data := .seq its.toArray } } :=
    I1.laid (t' := s.toks) (fun b o e => Heap.get?_push_of_some _ e) (Nat.le_refl _) (show ObjOk X.prog X.w _ _ _ (.frz _ (.tup ys)) from ⟨Heap.get?_push_size _ rfl, hz, its, r', IsTup.new _ _⟩)
  exact ⟨.ref h'.objs.size, _, I2, rfl, q _ _ (I1.hok.fresh (Nat.le_refl _)) rfl⟩

/-- dict(t), t a tuple of pairs -/
theorem call_dictPT {X : Cx} (hcalm : X.calm = true) : CallR X (.type "dict") (fun xs H Q => ∃ (a : Addr) (o : Obj) (ps : List Addr) (kvs : List (Key × V)), xs = [.ref a] ∧ H a = some (.frz o (.tup (ps.map V.ref))) ∧ o.dict = none ∧ Paired (fun p kv => SqT X.K H p [kV kv.1, kv.2]) ps kvs ∧
    ∀ p, H p = none → Q (.ref p) (upd H p (.dK (mergeK [] kvs)))) := by
  intro pins s σ H xs us Q I r q
  obtain ⟨a, o, ps, kvs, ex, ha, hod, hp, q⟩ := q
  subst ex
  obtain ⟨u, eu, rx⟩ := vals1 r
  subst eu
  cases rx
  obtain ⟨ho, hz, its, rv, o', ho', hc, n, hdat⟩ := (show ObjOk X.prog X.w H s.heap a (.frz o (.tup (ps.map V.ref))) from I.hok a _ ha)
  rw [ho] at ho'; cases ho'
  have ei := refs_at rv
  subst ei
  rw [List.length_map] at hz
  obtain ⟨prs, rel, hl, hpr⟩ := pairs_of I hp
  -- the pairs by their values
  have hex : ∀ j : Nat, ∃ bu : Addr × Value, ∀ q : Key × Value, prs[j]? = some q → ps[j]? = some bu.1 ∧ IsTup s.heap bu.1 #[bu.2, q.2] ∧ keyIs q.1 bu.2 = true := fun j => by
    cases e : prs[j]? with
    | none => exact ⟨(0, .none), fun q e' => by cases e'⟩
    | some q =>
      obtain ⟨b, u, e1, e2, e3⟩ := hpr j q e
      exact ⟨(b, u), fun q' e' => by cases e'; exact ⟨e1, e2, e3⟩⟩
  let f : Nat → Addr × Value := fun j => Classical.choose (hex j)
  have hf : ∀ (j : Nat) (q : Key × Value), prs[j]? = some q → ps[j]? = some (f j).1 ∧ IsTup s.heap (f j).1 #[(f j).2, q.2] ∧ keyIs q.1 (f j).2 = true := fun j => Classical.choose_spec (hex j)
  let pv : List (Value × Value) := (List.range prs.length).map fun j => ((f j).2, ((prs[j]?).map (·.2)).getD .none)
  have hpl : pv.length = prs.length := by simp [pv]
  have hpv : ∀ (j : Nat) (k v : Value), pv[j]? = some (k, v) → ∃ q, prs[j]? = some q ∧ k = (f j).2 ∧ v = q.2 := fun j k v e => by
    have hj : j < pv.length := (List.getElem?_eq_some_iff.mp e).1
    rw [hpl] at hj
    rw [List.getElem?_map, List.getElem?_range hj] at e
    simp only [Option.map_some, Option.some.injEq, Prod.mk.injEq] at e
    obtain ⟨e3, e4⟩ := e
    rw [List.getElem?_eq_getElem hj] at e4
    exact ⟨prs[j], List.getElem?_eq_getElem hj, e3.symm, e4.symm⟩
  have P := PySem.PairArg.tuple (prog := X.prog) (w := X.w) a (ps.map Value.ref).toArray (fun j => (f j).1) pv
  refine PySem.call_dict_pairs (knd := mixKind X.prog X.w) (kvs := prs) P (I.ok.hd hcalm) ⟨⟨o, n, ho, hc, hod, hdat⟩, by simp [hpl, hl], fun j k v e => ?_⟩ ⟨hpl.symm, fun i key v e => ?_⟩ (by rw [hpl, hl]; exact hz) fun h' tk hd' kk => ?_
  · obtain ⟨q, e1, rfl, rfl⟩ := hpv j k v e
    obtain ⟨h1, h2, h3⟩ := hf j q e1
    exact ⟨by simp [h1], .inl h2⟩
  · obtain ⟨q, e1, rfl, rfl⟩ := hpv i key v e
    obtain ⟨h1, h2, h3⟩ := hf i q e1
    exact ⟨q.1, e1, h3⟩
  · have kk' : ∀ b o, s.heap.get? b = some o → h'.get? b = some o := fun b o e => kk b o (by simp) e
    have hm : (s.heap.objs.size == sysModules) = false := beq_eq_false_iff_ne.mpr (Nat.ne_of_gt I.big)
    have hlen : (mergeK [] kvs).length ≤ sizeLine := by
      refine Nat.le_trans (length_mergeK kvs []) ?_
      rw [List.length_nil, Nat.zero_add, rel.length, hl]
      exact hz
    exact ⟨.ref s.heap.objs.size, upd H s.heap.objs.size (.dK (mergeK [] kvs)), I.laid (t' := tk) kk' (Nat.le_refl _) (show ObjOk X.prog X.w _ _ _ (.dK (mergeK [] kvs)) from ⟨hlen, hm, merged [] prs, KV.merge rel .nil, hd'⟩), rfl, q _ (I.hok.fresh (Nat.le_refl _))⟩

/-! ### merge of entries with keys apart -/
theorem putK_new {kvs : List (Key × V)} {k : Key} {v : V} (h : k ∉ kvs.map (·.1)) : putK kvs k v = kvs ++ [(k, v)] := by
  unfold putK
  rw [if_neg]
  intro e
  obtain ⟨p, hp, e⟩ := List.any_eq_true.mp e
  exact h (List.mem_map.mpr ⟨p, hp, by simpa using e⟩)
theorem mergeK_nodup : ∀ (more kvs : List (Key × V)), ((kvs ++ more).map (·.1)).Nodup → mergeK kvs more = kvs ++ more
  | [], kvs, _ => by rw [List.append_nil]; rfl
  | p :: r, kvs, h => by
    have h1 : p.1 ∉ kvs.map (·.1) := fun hm => by
      rw [List.map_append, List.nodup_append] at h
      exact h.2.2 _ hm _ (by simp) rfl
    show mergeK (putK kvs p.1 p.2) r = _
    rw [putK_new h1, mergeK_nodup r (kvs ++ [p]) (by rw [List.append_assoc]; exact h), List.append_assoc]
    rfl

section
variable {X : Cx} {F0 H0 : Hp} {ρ : Rho} {N L A G : List Str} {k : Nat} {P : D → Prop} {PL : List D → Prop} {a b c e o : Expr} {es : List Expr} {pos apos p2 : Pos}
/-! ### calls of own defs -/
theorem wd_fn {x : Str} {j n : Nat} {Cc : Ct} {p : Pos} (T : FnX X x j n Cc) (hj : j ≤ k) (C : Cxt X N L A G k) (m : x ∈ G) (h : WA X F0 H0 ρ (e :: es) fun ds => ds.length = n ∧ Cc ds P)
    (he : starEach (e :: es) X.env = (false, eval e X.env) :: starEach es X.env := by rfl) (hpl : (backTo pos (starEach es X.env)).any (·.1) = false := by rfl) : WD X F0 H0 ρ (.Call (.Name x p) (e :: es) [] pos) P := fun σ F H Q E kk => by
  obtain ⟨gl, h1, h2⟩ := C.glo x m
  obtain ⟨f, fd, ps, hm, hk, hb, hF⟩ := T.ex
  refine run_pe (pe_call hF (C.room.mono hj) gl hm hk hb .nil pass0 pa_run h1 he hpl) ?_
  refine h σ F H _ E fun ds vs F1 H1 p s1 r1 => ?_
  rw [List.append_nil]
  exact ⟨F1, ds, P, s1.sub, r1, p.1, p.2, fun d v F2 H2 p2 s2 r2 => kk d v F2 H2 p2 (s1.trans s2) r2⟩
theorem wd_meth {pl : Sem Bool} {Cl : Addr} {m : Str} {j n : Nat} {Cc : Ct} (T : MtX X Cl m j n Cc) (hj : j ≤ k) (C : Cxt X N L A G k) (h : WD X F0 H0 ρ o fun d => ∃ fs, d = .ob Cl fs ∧ fs.lookup m = none ∧ WA X F0 H0 ρ (e :: es) fun ds => (d :: ds).length = n ∧ Cc (d :: ds) P)
    (hst : starEach (e :: es) X.env = (false, eval e X.env) :: starEach es X.env := by rfl) (hpl : (backTo pos (starEach es X.env)).any (·.1) = false := by rfl)
    (ht : eval (.Call (.Attribute o m apos) (e :: es) [] pos) X.env = (do
      let ov ← eval o X.env
      standAt apos.atName
      let (f, first) ← holding [ov] (getMethod ov m pl)
      callWith pos f first (backTo pos (starEach (e :: es) X.env)) (backToKw pos (keywordEach [] X.env))) := by rfl) : WD X F0 H0 ρ (.Call (.Attribute o m apos) (e :: es) [] pos) P := fun σ F H Q E kk => by
  obtain ⟨f, fd, ps, hm, hb, hF⟩ := T.ex
  refine run_pe (pe_meth pe_run T.cl hm hF (C.room.mono hj) hb .nil pass0 pa_run hst hpl ht) ?_
  refine h σ F H _ E fun d v F1 H1 h1 s1 r1 => ?_
  obtain ⟨fs, rfl, hl, h1⟩ := h1
  have r1' := r1
  cases r1' with
  | ob hq r =>
    refine ⟨_, _, _, rfl, s1.sub _ _ hq, repF_none r hl, ?_⟩
    refine h1 σ F1 H1 _ (E.stp s1) fun ds vs F2 H2 p s2 r2 => ?_
    rw [List.append_nil]
    exact ⟨F2, _, P, s2.sub, .cons (r1.mono s2.ff) r2, p.1, p.2, fun d v F3 H3 p3 s3 r3 => kk d v F3 H3 p3 ((s1.trans s2).trans s3) r3⟩
theorem wd_meth0 {pl : Sem Bool} {Cl : Addr} {m : Str} {j n : Nat} {Cc : Ct} (T : MtX X Cl m j n Cc) (hj : j ≤ k) (C : Cxt X N L A G k) (h : WD X F0 H0 ρ o fun d => ∃ fs, d = .ob Cl fs ∧ fs.lookup m = none ∧ 1 = n ∧ Cc [d] P)
    (ht : eval (.Call (.Attribute o m apos) [] [] pos) X.env = (do
      let ov ← eval o X.env
      standAt apos.atName
      let (f, first) ← holding [ov] (getMethod ov m pl)
      callWith pos f first (backTo pos (starEach [] X.env)) (backToKw pos (keywordEach [] X.env))) := by rfl) : WD X F0 H0 ρ (.Call (.Attribute o m apos) [] [] pos) P := fun σ F H Q E kk => by
  obtain ⟨f, fd, ps, hm, hb, hF⟩ := T.ex
  refine run_pe (pe_meth0 pe_run T.cl hm hF (C.room.mono hj) hb .nil pass0 ht) ?_
  refine h σ F H _ E fun d v F1 H1 h1 s1 r1 => ?_
  obtain ⟨fs, rfl, hl, hn, h1⟩ := h1
  have r1' := r1
  cases r1' with
  | ob hq r => exact ⟨_, _, _, rfl, s1.sub _ _ hq, repF_none r hl, F1, [_], P, s1.sub, .cons r1 .nil, hn, h1, fun d v F3 H3 p3 s3 r3 => kk d v F3 H3 p3 (s1.trans s3) r3⟩
/-- len(o), o with its own __len__ -/
theorem call_lenOwn {Cl f : Addr} {fd : FuncData} {ps : List Str} {j : Nat} {sp : Sp} (M : PySem.W.findIn X.K (.ref Cl) "__len__" = some (some (.ref f))) (hf : PySem.W.isFn X.K (.ref f) = true) (hF : FnOk X.prog X.w X.K X.mg X.base CX0 j f fd ps sp) (hr : Room (j + 1) X.A) (hb : Binds X.K fd ps []) :
    CallR X (.builtin "len") (fun xs H Q => ∃ (a dx : Addr) (fs : List (Str × V)), xs = [V.ref a] ∧ H a = some (.ins Cl dx fs) ∧ sp [.ref a] H (fun v H' => ∃ n : Int, v = .int n ∧ (0 ≤ n ∧ n < 2 ^ 63) ∧ Q (.int n) H') E0) := by
  intro pins s σ H xs us Q I r h
  obtain ⟨a, dx, fs, rfl, ha, hsp⟩ := h
  obtain ⟨u, rfl, rx⟩ := vals1 r
  cases rx
  obtain ⟨mA, M1, h2, h3, h4, h5⟩ := ins_get I.hok ha
  obtain ⟨od, IA, hlook⟩ := M1.look
  obtain ⟨mf, Fr1⟩ := I.fr
  refine PySem.W.len_K Fr1 I.ok.mod.kin IA M hf ?_
  have r2 : Vals [V.ref a] [Value.ref a] := .cons rfl .nil
  have hl : ([Value.ref a] ++ ([] : List Value)).length = ps.length := by rw [List.append_nil, ← r2.length]; exact hF.len _ _ _ _ hsp
  have hbb := hb s [.ref a] I.kIn hl
  rw [List.append_nil] at hbb
  refine wpAny_call (codeAny_mono (hF.run X.A.in1 X.stack s H ⟨[.ref a], []⟩ [.ref a] [.ref a] _ E0 hr.in1 I.env0.in1 hbb r2 hsp) fun r s' hq => ?_)
  cases r with
  | error e => exact hq.elim
  | ok fl =>
    cases fl with
    | ret u =>
      obtain ⟨v, H', I3, rv, n, rfl, hn, q3⟩ := I.after hq
      obtain ⟨t, rfl⟩ := rv
      exact ⟨hn, .int n, H', I3.tok _, ⟨_, rfl⟩, q3⟩
    | next => exact False.elim hq
    | brk => exact False.elim hq
    | cont => exact False.elim hq
theorem cd_lenO {Cl : Addr} {j : Nat} {Cc : Ct} (T : MtX X Cl "__len__" j 1 Cc) (hj : j + 1 ≤ k) (C : Cxt X N L A G k) : CallD X (.builtin "len") (fun ds P => ∃ fs, ds = [.ob Cl fs] ∧ Cc [.ob Cl fs] fun d => ∃ n : Nat, d = .int n ∧ n < 1000000 ∧ P (.int n)) := by
  obtain ⟨f, fd, ps, hm, hb, hF⟩ := T.ex
  refine ⟨_, call_lenOwn hm.at_ hm.fn hF (C.room.mono hj) hb, fun F H vs ds P Q s r h kk => ?_⟩
  obtain ⟨fs, rfl, h⟩ := h
  obtain ⟨v, rfl, r1⟩ := reps1 r
  have r1' := r1
  cases r1' with
  | ob hq r2 =>
    refine ⟨_, _, _, rfl, s _ _ hq, F, [_], _, s, .cons r1 .nil, rfl, h, fun d v F' H' p s' r' => ?_⟩
    obtain ⟨n, rfl, hn, p⟩ := p
    cases r'
    exact ⟨n, rfl, by constructor <;> omega, kk _ _ F' H' p s' (.int _)⟩
/-! ### a new instance -/
theorem wd_make {x : Str} {Cl : Addr} {j n : Nat} {Ci : CtI} {p : Pos} (T : MkT X.prog X.w X.K X.mg X.base x Cl j n Ci) (hj : j + 1 ≤ k) (C : Cxt X N L A G k) (m : x ∈ G) (h : WA X F0 H0 ρ (e :: es) fun ds => ds.length = n ∧ Ci ds fun fs => P (.ob Cl fs))
    (he : starEach (e :: es) X.env = (false, eval e X.env) :: starEach es X.env := by rfl) (hpl : (backTo pos (starEach es X.env)).any (·.1) = false := by rfl) : WD X F0 H0 ρ (.Call (.Name x p) (e :: es) [] pos) P := fun σ F H Q E kk => by
  obtain ⟨gl, h1, h2⟩ := C.glo x m
  obtain ⟨f, fd, ps, M, hb, hF⟩ := T.ex
  refine run_pe (pe_make M hF (C.room.mono hj) gl T.gl hb .nil pass0 pa_run h1 he hpl) ?_
  refine h σ F H _ E fun ds vs F1 H1 p s1 r1 => ?_
  intro x dx hx hdx ne
  rw [List.append_nil]
  refine ⟨H1, F1, x, dx, ds, vs, _, hx, hdx, ne, rfl, rfl, s1.sub, r1, p.1, p.2, fun fs fvs dx' F' H' pf ff hh sub out hF0 hH' rf => ⟨rfl, ?_⟩⟩
  have st : Stp F1 H1 F' H' := ⟨ff, hh, sub, out⟩
  have fne : ∀ b u, F' b = some u → b ≠ x := fun b u e q => by rw [q, hF0] at e; cases e
  refine kk _ _ _ _ pf (s1.trans (st.frz hx hH')) (.ob upd_same (rf.mono fun b u e => by rw [upd_ne (fne b u e)]; exact e))
/-! ### isinstance -/
def D.ty : D → Option String
  | .non => some "NoneType" | .bl _ => some "bool" | .int _ => some "int" | .str _ => some "str" | .tup _ => some "tuple" | .ptup _ => some "tuple" | .lst _ => some "list" | .dk _ => some "dict"
  | _ => none
theorem rep_ty {K : PySem.W.Frag} {Pg : Program} {w : World} {F H : Hp} (s : Same F H) {d : D} {v : V} {T : String} (r : Rep Pg w K F d v) (h : d.ty = some T) : TyX K H v (.type T) := by
  cases r with
  | non => cases h; exact .base .non
  | bl b => cases h; exact .base (.bl b)
  | int b => cases h; exact .base (.int b)
  | str b => cases h; exact .base (.str b)
  | tup hq r =>
    cases h
    rcases hq with (hq | ⟨o, hq⟩) | ⟨o, its, n, hk, hc, _⟩
    · exact .base (.tup (s _ _ hq))
    · exact .fTuple (s _ _ hq)
    · exact .kTuple hk hc
  | ptup hq ho r => cases h; exact .fTuple (s _ _ hq)
  | lst hq r => cases h; exact .base (.lst (s _ _ hq))
  | dk hq r => cases h; exact .fDict (s _ _ hq)
  | _ => cases h
/-- isinstance(e, T), T a built-in type -/
theorem wd_isi {y : Str} {T : String} {p q : Pos} (C : Cxt X N L A G k) (m : ("isinstance" : Str) ∈ G) (hm : X.mg "isinstance" = none) (m2 : y ∈ G) (hm2 : X.mg y = none) (hv2 : bootBuiltins y = some (.type T)) (h : WD X F0 H0 ρ e fun d => ∃ t b, d.ty = some t ∧ kitB t T = some b ∧ P (.bl b))
    (he : starEach [e, .Name y q] X.env = (false, eval e X.env) :: starEach [.Name y q] X.env := by rfl) : WD X F0 H0 ρ (.Call (.Name "isinstance" p) [e, .Name y q] [] pos) P := fun σ F H Q E kk => by
  obtain ⟨gl, _, _⟩ := C.glo _ m
  obtain ⟨gl2, h3, h4⟩ := C.glo y m2
  refine run_pe (pe_callB call_isi gl hm (by decide +kernel) (pa_cons pe_run (pa_cons (pe_bltn (v := .ty T) gl2 hm2 hv2 rfl h4 h3) pa_nil) he) (by decide) (by decide) he rfl) ?_
  refine h σ F H _ E fun d v F1 H1 h1 s1 r1 => ?_
  obtain ⟨t, b, ht, hk, p⟩ := h1
  exact ⟨v, .ty T, .type t, .type T, b, rfl, .ty T, rep_ty s1.sub r1 ht, kit_ty hk, kk _ _ F1 H1 p s1 (.bl b)⟩
/-- what isinstance asks of an own class -/
structure IsiC (K : PySem.W.Frag) (Cl : Addr) : Prop where
  cl : Cls K Cl
  ha : PySem.W.findIn K (.ref Cl) "__class__" = some (some (.builtin "object.__class__"))
  hn : PySem.W.specialIn K (.builtin "object.__class__") "__get__" = some (some (.builtin "getset_descriptor.__get__"))
  htk : PySem.W.takesIn K (.builtin "object.__class__") = some true
  hm : PySem.W.mroIn K Cl (.type "object") = some true
theorem wd_isiO {y : Str} {C2 : Addr} {p q : Pos} (C : Cxt X N L A G k) (m : ("isinstance" : Str) ∈ G) (hm : X.mg "isinstance" = none) (m2 : y ∈ G) (hm2 : X.mg y = some (.ref C2)) (h : WD X F0 H0 ρ e fun d => ∃ Cl fs b, d = .ob Cl fs ∧ IsiC X.K Cl ∧ PySem.W.kitOne X.K (.ref Cl) (.ref C2) = some b ∧ P (.bl b))
    (he : starEach [e, .Name y q] X.env = (false, eval e X.env) :: starEach [.Name y q] X.env := by rfl) : WD X F0 H0 ρ (.Call (.Name "isinstance" p) [e, .Name y q] [] pos) P := fun σ F H Q E kk => by
  obtain ⟨gl, _, _⟩ := C.glo _ m
  obtain ⟨gl2, h3, h4⟩ := C.glo y m2
  refine run_pe (pe_callB call_isi gl hm (by decide +kernel) (pa_cons pe_run (pa_cons (pe_glob (v := .ref C2) gl2 hm2 rfl h3) pa_nil) he) (by decide) (by decide) he rfl) ?_
  refine h σ F H _ E fun d v F1 H1 h1 s1 r1 => ?_
  obtain ⟨Cl, fs, b, rfl, hI, hk, p⟩ := h1
  cases r1 with
  | ob hq r => exact ⟨_, .ref C2, .ref Cl, .ref C2, b, rfl, .own C2, .base (.ins (s1.sub _ _ hq) hI.cl hI.ha hI.hn hI.htk hI.hm), hk, kk _ _ F1 H1 p s1 (.bl b)⟩
/-- tuple(l), the tuple's object told -/
theorem cd_ptup : CallD X (.type "tuple") (fun ds P => ∃ xs, ds = [.lst xs] ∧ P (.ptup xs)) :=
  ⟨_, call_tuple_exact, fun F H vs ds P Q s r h kk => by
    obtain ⟨xs, rfl, p⟩ := h
    obtain ⟨v, rfl, r1⟩ := reps1 r; clear r
    cases r1 with
    | lst hq r => exact ⟨_, _, rfl, SqL.of (s _ _ hq), fun q o hq0 ho => kk _ _ _ _ p (Stp.new s hq0) (.ptup upd_same ho (r.mono (Stp.new s hq0).ff))⟩⟩
/-- a tuple known by its object, as a tuple -/
theorem wd_ofP (h : WD X F0 H0 ρ e fun d => ∃ xs, d = .ptup xs ∧ P (.tup xs)) : WD X F0 H0 ρ e P := fun σ F H Q E kk => h σ F H Q E fun d v F1 H1 h1 s1 r1 => by
  obtain ⟨xs, rfl, p⟩ := h1
  exact kk _ v F1 H1 p s1 r1.ptup_tup
/-- the rows of a table -/
def rowsD (rows : List (Int × D)) : List D := rows.map fun p => .tup [.int p.1, p.2]
theorem rows_rep {Pg : Program} {w : World} {K : PySem.W.Frag} {F H : Hp} (s : Same F H) : ∀ {rows : List (Int × D)} {vs : List V}, Reps Pg w K F (rowsD rows) vs → ∃ (ps : List Addr) (kvs : List (Key × V)), vs = ps.map V.ref ∧ RepK Pg w K F rows kvs ∧ Paired (fun p kv => SqT K H p [kV kv.1, kv.2]) ps kvs
  | [], _, .nil => ⟨[], [], rfl, .nil, .nil⟩
  | (i, d) :: rows, _, .cons h t => by
    obtain ⟨ps, kvs, e1, r1, p1⟩ := rows_rep s t
    cases h with
    | @tup a ws _ hq r =>
      obtain ⟨v, v', rfl, ri, rd⟩ := reps2 r
      cases ri
      exact ⟨a :: ps, (.inl i, v') :: kvs, by rw [e1]; rfl, .cons rd r1, .cons (Same.tupS s hq) p1⟩
theorem repK_keys {Pg : Program} {w : World} {K : PySem.W.Frag} {F : Hp} : ∀ {xs : List (Int × D)} {kvs : List (Key × V)}, RepK Pg w K F xs kvs → kvs.map (·.1) = (xs.map (·.1)).map Sum.inl
  | _, _, .nil => rfl
  | _, _, .cons h t => by rw [List.map_cons, List.map_cons, List.map_cons, repK_keys t]
/-- dict(e).get(e2), e a tuple of pairs with int keys apart -/
theorem wd_getRows {e2 : Expr} {p p1 cpos : Pos} (C : Cxt X N L A G k) (m : ("dict" : Str) ∈ G) (hm : X.mg "dict" = none)
    (h : WD X F0 H0 ρ e fun d => ∃ rows, d = .ptup (rowsD rows) ∧ (rows.map (·.1)).Nodup ∧ WD X F0 H0 ρ e2 fun d2 => ∃ i, d2 = .int i ∧ P ((dkGet rows i).getD .non))
    (M : M1 X (.Call (.Name "dict" p) [e] [] p1) "get" apos e2 cpos := by exact ⟨rfl, rfl, rfl, rfl⟩) (he : starEach [e] X.env = (false, eval e X.env) :: starEach [] X.env := by rfl) :
    WD X F0 H0 ρ (.Call (.Attribute (.Call (.Name "dict" p) [e] [] p1) "get" apos) [e2] [] cpos) P := fun σ F H Q E kk => by
  obtain ⟨gl, _, _⟩ := C.glo _ m
  refine run_pe (pe_dget1 C.u1 (pe_callTy (call_dictPT C.calm) gl hm (by decide +kernel) (pa_cons pe_run pa_nil he) (by decide) (by decide) he rfl) pe_run M) ?_
  refine h σ F H _ E fun d v F1 H1 h1 s1 r1 => ?_
  obtain ⟨rows, rfl, nd, h1⟩ := h1
  cases r1 with
  | @ptup a o vs _ hq ho r =>
    obtain ⟨ps, kvs, rfl, rk, pr⟩ := rows_rep s1.sub r
    refine ⟨a, o, ps, kvs, rfl, s1.sub _ _ hq, ho, pr, fun q hq0 => ?_⟩
    have ndk : (([] ++ kvs : List (Key × V)).map (·.1)).Nodup := by
      rw [List.nil_append, repK_keys rk]
      have inj : ∀ {l : List Int}, l.Nodup → (l.map (Sum.inl : Int → Key)).Nodup := fun {l} h => by
        induction l with
        | nil => exact List.nodup_nil
        | cons x l ih =>
          rw [List.nodup_cons] at h
          rw [List.map_cons, List.nodup_cons]
          refine ⟨fun hm => ?_, ih h.2⟩
          obtain ⟨y, hy, e⟩ := List.mem_map.mp hm
          exact h.1 (Sum.inl.inj e ▸ hy)
      exact inj nd
    rw [mergeK_nodup kvs [] ndk, List.nil_append]
    refine ⟨q, rfl, .inl ⟨kvs, .inl upd_same⟩, ?_⟩
    have st := Stp.newO (o := .dK kvs) s1.sub hq0
    refine h1 σ F1 _ _ (E.stp (s1.trans st)) fun d2 y F2 H2 h2 s2 r2 => ?_
    obtain ⟨i, rfl, pp⟩ := h2
    cases r2
    have hH2 : H2 q = some (.dK kvs) := s2.hh _ _ upd_same
    refine ⟨valV kvs (.inl i), .inl ⟨kvs, .inl i, .inl hH2, rfl, rfl⟩, ?_⟩
    have s3 := (s1.trans st).trans s2
    rcases dkGet_rep (i := i) (rk.mono s2.ff) with ⟨e1, e2⟩ | ⟨d', v', e1, e2, r3⟩
    · rw [e1] at pp; rw [e2]; exact kk _ _ F2 H2 pp s3 .non
    · rw [e1] at pp; rw [e2]; exact kk _ _ F2 H2 pp s3 r3
end
end W3
end
section
set_option Elab.async false
set_option linter.all false
set_option maxRecDepth 100000
set_option maxHeartbeats 2000000
/-! LF0: enumerate over a tuple; keys and items of a dict of nested keys: the turns. -/
namespace W3
open PySem PySem.Spec PyProof.Rows L2

theorem meets_enumerate_newT (l : Addr) (items : Array Value) (n : Nat) (dct : Option Addr) (sl : Array (Option Value)) :
    Meets (Builtin.«enumerate.__new__» ⟨[.type "enumerate", .ref l], []⟩) (fun _ R s => s.heap.get? l = some { cls := .type "tuple", dict := dct, data := .seq items n, slots := sl } ∧
      R (.ok (.ret (.ref (s.heap.push { cls := .type "tuple_iterator", data := .fields #[.ref l, .int 0 0] }).objs.size)))
        { s with heap := (s.heap.push { cls := .type "tuple_iterator", data := .fields #[.ref l, .int 0 0] }).push { cls := .type "enumerate", data := .fields #[.none, .bool false, .ref s.heap.objs.size, rawInt 0, .none, .none] } }) :=
  .of_wp fun prog w A R s h => by
    obtain ⟨hp, g, d, tk, os⟩ := s; obtain ⟨hl, h⟩ := h
    have hsub := sub_enumerate
    have hL : Heap.IsTuple (Shared.heap ⟨hp, g, d, tk, os⟩) l items := ⟨_, hl, rfl, n, rfl⟩
    have q1 : ∀ {A' : Around} {E : Value → Shared → Prop} {Q : Value → Shared → Prop}, Q (.ref hp.objs.size) ⟨hp.push { cls := .type "tuple_iterator", data := .fields #[.ref l, .int 0 0] }, g, d, tk, os⟩ → wpAny (model prog w) A' (pyIter (.ref l)) Q E ⟨hp, g, d, tk, os⟩ :=
      fun q => wpAny_pyIter_tuple hL q
    wp_walk using AutoSeq1.wpAny_loadPart' hl
    refine wpAny_stack_any fun st => wpAny_pure ?_
    split
    · rename_i c _ _ _ _ _
      cases (c == Value.type "enumerate")
      · wp_walk using AutoSeq1.wpAny_loadPart' hl, q1
        exact ⟨_, rfl, h⟩
      · wp_walk using AutoSeq1.wpAny_loadPart' hl, q1
        exact ⟨_, rfl, h⟩
    · wp_walk using AutoSeq1.wpAny_loadPart' hl, q1
      exact ⟨_, rfl, h⟩
section
variable {prog : Program} {w : World} {A : Around} {E : Value → Shared → Prop} {s : Shared}
theorem call_enumerate_tuple {l : Addr} {items : Array Value} {Q : Value → Shared → Prop} (hL : s.heap.IsTuple l items)
    (h : ∀ h', IsEnum h' (s.heap.objs.size + 1) s.heap.objs.size 0 .none → h'.IsTupleIter s.heap.objs.size l 0 → h'.objs.size = s.heap.objs.size + 2 →
      (∀ b o, s.heap.get? b = some o → h'.get? b = some o) → Q (.ref (s.heap.objs.size + 1)) { s with heap := h' }) :
    wpAny (model prog w) A (call (.type "enumerate") [.ref l]) Q E s := by
  obtain ⟨⟨c, dct, dt, sl⟩, hl, hc, n, hd⟩ := hL
  replace hc : c = .type "tuple" := hc
  replace hd : dt = .seq items n := hd
  subst hc hd
  refine callType_new PySem.F.called_enumerate (by decide) (PySem.F.typeCall_enumerate_1 _) (PySem.F.newCall_enumerate_1 _) (fun obj => PySem.F.args_object_init_2 obj _) PySem.F.entry_enumerate_new
    (meets_enumerate_newT l items n dct sl) ⟨hl, ?_⟩
  have hz : (s.heap.push { cls := .type "tuple_iterator", data := .fields #[.ref l, .int 0 0] }).objs.size = s.heap.objs.size + 1 := Heap.size_push ..
  show _ ∧ _
  rw [hz]
  have he : IsEnum ((s.heap.push { cls := .type "tuple_iterator", data := .fields #[.ref l, .int 0 0] }).push
      { cls := .type "enumerate", data := .fields #[.none, .bool false, .ref s.heap.objs.size, rawInt 0, .none, .none] }) (s.heap.objs.size + 1) s.heap.objs.size 0 .none := by
    have := Heap.get?_push_size (s.heap.push { cls := .type "tuple_iterator", data := .fields #[.ref l, .int 0 0] })
      (o := { cls := .type "enumerate", data := .fields #[.none, .bool false, .ref s.heap.objs.size, rawInt 0, .none, .none] }) rfl
    rw [hz] at this; exact this
  refine ⟨⟨_, he, rfl⟩, h _ he ⟨_, Heap.get?_push_of_some _ (Heap.get?_push_size _ rfl), rfl, rfl⟩ (by rw [Heap.size_push, hz]) fun b o x => Heap.get?_push_of_some _ (Heap.get?_push_of_some _ x)⟩
end
/-- the tuple at a, its items in new pairs with their indices -/
def IteT (K : PySem.W.Frag) (a : Addr) : It :=
  ⟨fun i H => ∃ (xs : List V) (x : V), SqT K H a xs ∧ xs[i]? = some x, fun i H v H' => ∃ T x, v = .ref T ∧ H T = none ∧ H' = upd H T (.tup [.int (i : Nat), x]) ∧ ∀ xs, SqT K H a xs → xs[i]? = some x, fun i H => ∃ xs : List V, SqT K H a xs ∧ xs.length ≤ i⟩
theorem isTup_isTuple {h : Heap} {a : Addr} {its : Array Value} (t : IsTup h a its) : h.IsTuple a its := t
theorem turn_enumT {P : Program} {w : World} {K : PySem.W.Frag} {elts : List Expr} {kk : Nat} {tpos : Pos} (a e it : Addr) :
    Turn P w K (.Tuple elts kk tpos) (IteT K a) [e, it] e (fun i h => (∃ old, IsEnum h e it ((i : Nat) : Int) old) ∧ h.IsTupleIter it a i ∧ e ≠ it ∧ a ≠ it ∧ a ≠ e) where
  mem := by simp
  obj := fun i h st b hb => by
    obtain ⟨⟨old, he⟩, ⟨o, ho, hc, hd⟩, _⟩ := st
    have e' : b = e ∨ b = it := by simpa using hb
    rcases e' with z | z
    · rw [z]; exact ⟨_, he, fun v q => nomatch q⟩
    · rw [z]; exact ⟨o, ho, fun v q => by rw [hd] at q; cases q⟩
  keep := fun i h h' st k => let ⟨⟨old, he⟩, hi, hne⟩ := st; ⟨⟨old, k e (by simp) _ he⟩, hi.at fun o q => k it (by simp) o q, hne⟩
  item := by
    intro X hP hw hK hc i pins s σ H E I hf st hg
    subst hP hw hK
    obtain ⟨⟨old, he⟩, hit, hne, hai, hae⟩ := st
    obtain ⟨xs, x, hq, hx⟩ := hg
    obtain ⟨its, rv, p, hz⟩ := I.tuple hq
    obtain ⟨u, hu, ru⟩ := rv.get hx
    have hel : e < s.heap.objs.size := Heap.lt_size he
    have hil : it < s.heap.objs.size := by obtain ⟨_, q, _⟩ := hit; exact Heap.lt_size q
    have hlt : i < its.toArray.size := by
      have := (List.getElem?_eq_some_iff.mp hu).1
      simpa using this
    refine wpAny_pyNext_enum_itemC (Draws.tuple (A := X.A.in1) (I.ok.hd hc) it a hai its.toArray) he ⟨hit, p⟩ hlt hne (fun hm => ?_) fun x' h' tk hP ho hst' hT hsz hk => ?_
    · rcases List.mem_cons.mp hm with z | z
      · exact hne z
      · exact hae (List.mem_singleton.mp z).symm
    have ex : x' = u := by
      have hP : its.toArray[i]? = some x' := hP
      rw [List.getElem?_toArray, hu] at hP
      exact (Option.some.inj hP).symm
    subst ex
    refine ⟨_, rfl, wpAny_letOwnedTupleGo_enum (s := { s with heap := h', toks := tk + 1 }) ho fun h'' he' sb => ?_⟩
    have hT2 : h''.get? s.heap.objs.size = some { cls := .type "tuple", data := .seq #[.int i tk, x'] } := (sb.2 _ (Nat.ne_of_gt hel)).trans hT
    have new : ObjOk X.prog X.w (upd H s.heap.objs.size (.tup [.int (i : Nat), x])) h'' s.heap.objs.size (.tup [.int (i : Nat), x]) :=
      ⟨by show 2 ≤ sizeLine; decide, [.int i tk, x'], .cons ⟨_, rfl⟩ (.cons ru .nil), ⟨_, hT2, rfl, _, rfl⟩⟩
    have I1 : Inv X pins σ (upd H s.heap.objs.size (.tup [.int (i : Nat), x])) { s with heap := h'', toks := tk + 1 } :=
      I.turnedNew (ch := [e, it]) (fun b ob hb q => (sb.2 b (fun z => hb (by simp [z]))).trans (hk b ob (fun z => hb (by simp [z])) (fun z => hb (by simp [z])) q)) hf (Nat.le_refl _) new
    refine ⟨.ref s.heap.objs.size, _, I1, rfl, ⟨_, x, rfl, I.hok.fresh (Nat.le_refl _), rfl, fun ys hy => by rw [I.tuple_inj hy hq]; exact hx⟩, ⟨⟨x', ?_⟩, hst'.1.at fun o q => (sb.2 it (Ne.symm hne)).trans q, hne, hai, hae⟩, fun b hb => ?_⟩
    · have e1 : ((i + 1 : Nat) : Int) = (i : Int) + 1 := by omega
      rw [e1]; exact he'
    · have hb' : b < s.heap.objs.size := by
        have e' : b = e ∨ b = it := by simpa using hb
        rcases e' with z | z
        · rw [z]; exact hel
        · rw [z]; exact hil
      rw [upd_ne (Nat.ne_of_lt hb')]
      exact (hf b hb).1
  done := by
    intro X hP hw hK hc i pins s σ H E I hf st hg
    subst hP hw hK
    obtain ⟨⟨old, he⟩, hit, hne, hai, hae⟩ := st
    obtain ⟨xs, hq, hx⟩ := hg
    obtain ⟨its, rv, p, hz⟩ := I.tuple hq
    obtain ⟨f0, f1, f2, f3, f4, f5⟩ := hf it (by simp)
    have hl := rv.length
    -- the end, by the tuple's own iterator
    have hT : s.TypeIs (.ref e) "enumerate" := ⟨_, he, rfl⟩
    have D : Draws X.prog X.w X.A.in1 it [it, a] 0 (fun _ _ => False) (fun _ h => h.IsTupleIter it a i ∧ h.IsTuple a its.toArray) :=
      { live := fun _ _ st => let ⟨o, ho, _⟩ := st.1; ⟨o, ho⟩
        frame := fun _ _ _ st hk => ⟨st.1.at fun o e => hk it (by simp) o e, st.2.at fun o e => hk a (by simp) o e⟩
        item := fun j s' Q E' hj st hQ => absurd hj (Nat.not_lt_zero j)
        done := fun s' Q E' st hE => wpAny_nextOf_tuple_end (A := X.A.in1) (I.ok.hd hc) st.1 st.2 (by simp; omega) hE }
    exact wpAny_pyNext_enum_endD D he ⟨hit, p⟩ fun h' eb => ⟨rfl, I.turned (t' := s.toks) (fun b o hb q => eb b o hb q) f0 f1 f3 f4 f5⟩
  self := fun A i s Q E st h => let ⟨⟨_, he⟩, _⟩ := st; wpAny_pyIter_enum he h
def iEnumT (K : PySem.W.Frag) (ta : TA) : TI := fun σ H R => ta σ H fun vs H1 => ∃ a xs, vs = [.ref a] ∧ SqT K H1 a xs ∧ R (IteT K a) H1
theorem pi_enumT {X : Cx} {e : Expr} {ta : TA} {p pos tpos : Pos} {elts : List Expr} {kk : Nat} (hg : Gl X "enumerate") (hm : X.mg "enumerate" = none) (ha : PA X [e] ta) (hs : starEach [e] X.env = [(false, eval e X.env)] := by rfl) :
    PI X (.Tuple elts kk tpos) (.Call (.Name "enumerate" p) [e] [] pos) (iEnumT X.K ta) := by
  refine ⟨fun pins s σ H R I h => ?_⟩
  refine Call_ (ld_blt I hg hm boot_enumerate (PyProof.Rows.callWith_type1 (thn (ha.run pos pins s σ H _ I h) fun us s1 ⟨vs, H1, I1, r1, q1⟩ => ?_) hs rfl))
  obtain ⟨a, xs, ex, hq, q⟩ := q1
  subst ex
  cases r1 with
  | cons r rr =>
    cases rr
    cases r
    obtain ⟨its, rv, p', hz⟩ := I1.tuple hq
    refine call_enumerate_tuple p' fun h' he hit hsz hk => wpAny_pyIter_enum he ?_
    have I2 : Inv X pins σ H1 { s1 with heap := h' } := I1.kept (t' := s1.toks) hk
    have hal : a < s1.heap.objs.size := p'.lt
    refine ⟨s1.heap.objs.size + 1, [s1.heap.objs.size + 1, s1.heap.objs.size], _, _, H1, rfl, I2, turn_enumT a (s1.heap.objs.size + 1) s1.heap.objs.size, ⟨⟨.none, he⟩, hit, Nat.succ_ne_self _, Nat.ne_of_lt hal, Nat.ne_of_lt (Nat.lt_succ_of_lt hal)⟩, fun b hb => ?_, q⟩
    have e' : b = s1.heap.objs.size + 1 ∨ b = s1.heap.objs.size := by simpa using hb
    have hle : s1.heap.objs.size ≤ b := by
      rcases e' with z | z
      · rw [z]; exact Nat.le_add_right _ _
      · rw [z]; exact Nat.le_refl _
    exact I1.fpOk hle (I1.hok.fresh hle)
end W3
end
section
set_option Elab.async false
set_option linter.all false
set_option maxRecDepth 100000
set_option maxHeartbeats 2000000
/-! LF: targets, walks, comprehensions, statements. -/
namespace W3
open PySem PySem.Spec PyProof.Rows L2

/-! ### setting slots -/
section
variable {P : Program} {w : World} {K : PySem.W.Frag} {F0 H0 F H F' H' : Hp} {ρ : Rho} {σ : L2.St}
theorem Fm.lenS (E : Fm P w K F0 H0 ρ σ F H) {n : Nat} (h : n < ρ.length) : n < σ.length := by rw [← E.len]; exact h
/-- a slot takes data -/
theorem Fm.setD (E : Fm P w K F0 H0 ρ σ F H) {n : Nat} {x : D} {v : V} (r : Rep P w K F x v) : Fm P w K F0 H0 (ρ.set n (.d x)) (σ.set n (some v)) F H := by
  refine ⟨E.sub, E.f0, E.h0, E.out, by rw [List.length_set, List.length_set]; exact E.len, fun i y e => ?_, fun i y e q => ?_, fun i j x' y p ne ei ej qi qj si sj => ?_⟩
  · by_cases h : n = i
    · subst h
      by_cases hn : n < ρ.length
      · rw [List.getElem?_set_self hn] at e; cases e
        exact ⟨v, by rw [List.getElem?_set_self (E.lenS hn)], r⟩
      · rw [List.getElem?_eq_none (by rw [List.length_set]; omega)] at e; cases e
    · rw [List.getElem?_set_ne h] at e ⊢
      exact E.dat i y e
  · by_cases h : n = i
    · subst h
      by_cases hn : n < ρ.length
      · rw [List.getElem?_set_self hn] at e; cases e; cases q
      · rw [List.getElem?_eq_none (by rw [List.length_set]; omega)] at e; cases e
    · rw [List.getElem?_set_ne h] at e ⊢
      exact E.own i y e q
  · have hi : n ≠ i := fun h => by
      subst h
      by_cases hn : n < ρ.length
      · rw [List.getElem?_set_self hn] at ei; cases ei; cases qi
      · rw [List.getElem?_eq_none (by rw [List.length_set]; omega)] at ei; cases ei
    have hj : n ≠ j := fun h => by
      subst h
      by_cases hn : n < ρ.length
      · rw [List.getElem?_set_self hn] at ej; cases ej; cases qj
      · rw [List.getElem?_eq_none (by rw [List.length_set]; omega)] at ej; cases ej
    rw [List.getElem?_set_ne hi] at ei si
    rw [List.getElem?_set_ne hj] at ej sj
    exact E.one i j x' y p ne ei ej qi qj si sj
/-- a slot is forgotten -/
theorem Fm.drop (E : Fm P w K F0 H0 ρ σ F H) {n : Nat} {v : Option V} : Fm P w K F0 H0 (ρ.set n .no) (σ.set n v) F H := by
  refine ⟨E.sub, E.f0, E.h0, E.out, by rw [List.length_set, List.length_set]; exact E.len, fun i y e => ?_, fun i y e q => ?_, fun i j x' y p ne ei ej qi qj si sj => ?_⟩
  · have h : n ≠ i := fun h => by
      subst h
      by_cases hn : n < ρ.length
      · rw [List.getElem?_set_self hn] at e; cases e
      · rw [List.getElem?_eq_none (by rw [List.length_set]; omega)] at e; cases e
    rw [List.getElem?_set_ne h] at e ⊢
    exact E.dat i y e
  · have h : n ≠ i := fun h => by
      subst h
      by_cases hn : n < ρ.length
      · rw [List.getElem?_set_self hn] at e; cases e; cases q
      · rw [List.getElem?_eq_none (by rw [List.length_set]; omega)] at e; cases e
    rw [List.getElem?_set_ne h] at e ⊢
    exact E.own i y e q
  · have hi : n ≠ i := fun h => by
      subst h
      by_cases hn : n < ρ.length
      · rw [List.getElem?_set_self hn] at ei; cases ei; cases qi
      · rw [List.getElem?_eq_none (by rw [List.length_set]; omega)] at ei; cases ei
    have hj : n ≠ j := fun h => by
      subst h
      by_cases hn : n < ρ.length
      · rw [List.getElem?_set_self hn] at ej; cases ej; cases qj
      · rw [List.getElem?_eq_none (by rw [List.length_set]; omega)] at ej; cases ej
    rw [List.getElem?_set_ne hi] at ei si
    rw [List.getElem?_set_ne hj] at ej sj
    exact E.one i j x' y p ne ei ej qi qj si sj
/-- .. in the description alone -/
theorem Fm.dropR (E : Fm P w K F0 H0 ρ σ F H) {n : Nat} : Fm P w K F0 H0 (ρ.set n .no) σ F H := by
  have h := E.drop (n := n) (v := (σ[n]?).getD none)
  have e : σ.set n ((σ[n]?).getD none) = σ := by
    apply List.ext_getElem?
    intro i
    by_cases hi : n = i
    · subst hi
      by_cases hn : n < σ.length
      · rw [List.getElem?_set_self hn, List.getElem?_eq_getElem hn]; rfl
      · rw [List.getElem?_eq_none (by rw [List.length_set]; omega), List.getElem?_eq_none (by omega)]
    · rw [List.getElem?_set_ne hi]
  rw [e] at h
  exact h
/-- a slot takes an own object: one that is no other slot's -/
theorem Fm.setO (E : Fm P w K F0 H0 ρ σ F H) {n : Nat} {x : Sl} {p : Addr} (o : OwnAt P w K F H p x) (hf : F p = none) (h0 : H0 p = none) (ho : x.isOwn = true)
    (ap : ∀ (i : Nat) (y : Sl), ρ[i]? = some y → y.isOwn = true → i ≠ n → σ[i]? ≠ some (some (V.ref p))) : Fm P w K F0 H0 (ρ.set n x) (σ.set n (some (.ref p))) F H := by
  refine ⟨E.sub, E.f0, E.h0, E.out, by rw [List.length_set, List.length_set]; exact E.len, fun i y e => ?_, fun i y e q => ?_, fun i j x' y p' ne ei ej qi qj si sj => ?_⟩
  · have h : n ≠ i := fun h => by
      subst h
      by_cases hn : n < ρ.length
      · rw [List.getElem?_set_self hn] at e; cases e; cases ho
      · rw [List.getElem?_eq_none (by rw [List.length_set]; omega)] at e; cases e
    rw [List.getElem?_set_ne h] at e ⊢
    exact E.dat i y e
  · by_cases h : n = i
    · subst h
      by_cases hn : n < ρ.length
      · rw [List.getElem?_set_self hn] at e; cases e
        exact ⟨p, by rw [List.getElem?_set_self (E.lenS hn)], o, hf, h0⟩
      · rw [List.getElem?_eq_none (by rw [List.length_set]; omega)] at e; cases e
    · rw [List.getElem?_set_ne h] at e ⊢
      exact E.own i y e q
  · by_cases hi : n = i
    · subst hi
      have hj : n ≠ j := ne
      by_cases hn : n < ρ.length
      · rw [List.getElem?_set_self (E.lenS hn)] at si; cases si
        rw [List.getElem?_set_ne hj] at ej sj
        exact ap j y ej qj (Ne.symm hj) sj
      · rw [List.getElem?_eq_none (by rw [List.length_set]; omega)] at ei; cases ei
    · by_cases hj : n = j
      · subst hj
        by_cases hn : n < ρ.length
        · rw [List.getElem?_set_self (E.lenS hn)] at sj; cases sj
          rw [List.getElem?_set_ne hi] at ei si
          exact ap i x' ei qi (Ne.symm hi) si
        · rw [List.getElem?_eq_none (by rw [List.length_set]; omega)] at ej; cases ej
      · rw [List.getElem?_set_ne hi] at ei si
        rw [List.getElem?_set_ne hj] at ej sj
        exact E.one i j x' y p' ne ei ej qi qj si sj
end

/-! ### blocks of comprehensions -/
/-- X' runs a comprehension's block within X -/
def Blk (X : Cx) (scope : Scope) (X' : Cx) : Prop := ∃ (s : Shared) (H : Hp) (C : Addr) (cl : List (Str × Addr)) (fp : List Addr), X' = X.blk s H scope (compEnvC scope cl C X.env) fp
def inKind (sc : Scope) (ks : List NameKind) (x : Str) : Bool := match sc.names.lookup x with
  | some k => ks.contains k
  | none => false
def okL (sc : Scope) (L : List Str) : Bool := L.all fun x => inKind sc [.local, .cell, .free] x && (!(x == ("__debug__" : Str)) && !(x == ("__classdict__" : Str)))
def okA (sc : Scope) (A : List Str) : Bool := A.all fun x => inKind sc [.local, .cell] x
def okG (sc : Scope) (G : List Str) : Bool := G.all fun x => inKind sc [.globalImplicit] x && (!(x == ("__debug__" : Str)) && !decide (x = ("__name__" : Str)))
theorem inKind_ok {sc : Scope} {ks : List NameKind} {x : Str} (h : inKind sc ks x = true) : ∃ k, sc.names.lookup x = some k ∧ ks.contains k = true := by
  unfold inKind at h
  cases e : sc.names.lookup x with
  | none => rw [e] at h; cases h
  | some k => rw [e] at h; exact ⟨k, rfl, h⟩
theorem vis_of {sc : Scope} {x : Str} (h : inKind sc [.local, .cell, .free] x = true) : Vis sc x := by
  obtain ⟨k, e, q⟩ := inKind_ok h
  unfold Vis
  rw [e]
  cases k <;> first | exact .inl rfl | exact .inr (.inl rfl) | exact .inr (.inr rfl) | (exact absurd q (by decide))
theorem loc_of {sc : Scope} {x : Str} (h : inKind sc [.local, .cell] x = true) : L2.Loc sc x := by
  obtain ⟨k, e, q⟩ := inKind_ok h
  unfold L2.Loc
  rw [e]
  cases k <;> first | exact .inl rfl | exact .inr rfl | (exact absurd q (by decide))
/-- the context of a def's body -/
theorem cxt_def {X : Cx} {N L A G : List Str} {k : Nat} {sc : Scope} (hN : X.N = N) (nd : N.Nodup) (hs : X.env.scope = sc) (hf : X.fn = fun _ => true) (calm : X.calm = true) (room : Room k X.A) (xe : X.xe = fun _ _ => False) (hL : okL sc L = true) (hA : okA sc A = true) (hG : okG sc G = true) : Cxt X N L A G k := by
  refine ⟨hN, nd, fun x hx => ?_, fun x hx => ?_, fun x hx => ?_, calm, room, xe⟩
  · have h := List.all_eq_true.mp hL x hx
    simp only [Bool.and_eq_true, Bool.not_eq_true'] at h
    exact ⟨by rw [hs]; exact vis_of h.1, h.2.1, h.2.2⟩
  · have h := List.all_eq_true.mp hA x hx
    exact ⟨by rw [hs]; exact loc_of h, .inl (by rw [hf])⟩
  · have h := List.all_eq_true.mp hG x hx
    simp only [Bool.and_eq_true, Bool.not_eq_true'] at h
    obtain ⟨k', e, q⟩ := inKind_ok h.1
    refine ⟨?_, h.2.1, of_decide_eq_false h.2.2⟩
    show X.env.kindOf x = some .globalImplicit
    unfold Env.kindOf
    rw [hs, e]
    cases k' <;> first | rfl | (exact absurd q (by decide))
theorem look_rel {scope sc : Scope} {x : Str} {k : NameKind} (h : scope.names.lookup x = some k) : ∃ k', (relS scope sc).names.lookup x = some k' ∧ (k' = k ∨ (k = .free ∧ k' = .cell)) := by
  have gen : ∀ {names : List (Str × NameKind)}, names.lookup x = some k → ∃ k', (names.map fun (n, k) => if (k == NameKind.free && sc.kind == .function && sc.names.lookup n == some .cell) then (n, NameKind.cell) else (n, k)).lookup x = some k' ∧ (k' = k ∨ (k = .free ∧ k' = .cell)) := by
    intro names
    induction names with
    | nil => intro h; cases h
    | cons y r ih =>
      obtain ⟨n, k0⟩ := y
      intro h
      rw [List.lookup_cons] at h
      rw [List.map_cons]
      cases hx : x == n with
      | true =>
        rw [hx] at h; cases h
        by_cases hc : (k == NameKind.free && sc.kind == .function && sc.names.lookup n == some .cell) = true
        · refine ⟨.cell, ?_, .inr ⟨?_, rfl⟩⟩
          · simp only [hc, if_true, List.lookup_cons, hx]
          · simp only [Bool.and_eq_true, beq_iff_eq] at hc; exact hc.1.1
        · refine ⟨k, ?_, .inl rfl⟩
          simp only [hc, List.lookup_cons, hx]
          simp [hc, List.lookup_cons, hx]
      | false =>
        rw [hx] at h
        obtain ⟨k', e, q⟩ := ih h
        refine ⟨k', ?_, q⟩
        by_cases hc : (k0 == NameKind.free && sc.kind == .function && sc.names.lookup n == some .cell) = true
        · simp only [hc, if_true, List.lookup_cons, hx]; exact e
        · simp only [hc, List.lookup_cons, hx]; simp [hc, List.lookup_cons, hx]; simpa using e
  exact gen h
theorem cxt_blk {X X' : Cx} {N L A G L' A' G' : List Str} {k : Nat} {scope : Scope} (C : Cxt X N L A G k) (B : Blk X scope X') (hL : okL scope L' = true) (hA : (A'.all fun x => inKind scope [.local] x) = true) (hG : okG scope G' = true) : Cxt X' N L' A' G' k := by
  obtain ⟨s, H, Ca, cl, fp, rfl⟩ := B
  refine ⟨C.hN, C.nd, fun x hx => ?_, fun x hx => ?_, fun x hx => ?_, C.calm, C.room, rfl⟩
  · have h := List.all_eq_true.mp hL x hx
    simp only [Bool.and_eq_true, Bool.not_eq_true'] at h
    obtain ⟨k1, e, q⟩ := inKind_ok h.1
    refine ⟨?_, h.2.1, h.2.2⟩
    show Vis (relS scope X.env.scope) x
    obtain ⟨k2, e2, q2⟩ := look_rel (sc := X.env.scope) e
    unfold Vis
    rw [e2]
    rcases q2 with rfl | ⟨_, rfl⟩
    · cases k2 <;> first | exact .inl rfl | exact .inr (.inl rfl) | exact .inr (.inr rfl) | (exact absurd q (by decide))
    · exact .inr (.inl rfl)
  · have h := List.all_eq_true.mp hA x hx
    obtain ⟨k1, e, q⟩ := inKind_ok h
    have ek : k1 = .local := by cases k1 <;> first | rfl | (exact absurd q (by decide))
    subst ek
    obtain ⟨k2, e2, q2⟩ := look_rel (sc := X.env.scope) e
    have ek2 : k2 = .local := by
      rcases q2 with q2 | ⟨q2, _⟩
      · exact q2
      · cases q2
    subst ek2
    exact ⟨.inl e2, .inr e2⟩
  · have h := List.all_eq_true.mp hG x hx
    simp only [Bool.and_eq_true, Bool.not_eq_true'] at h
    obtain ⟨k1, e, q⟩ := inKind_ok h.1
    have ek : k1 = .globalImplicit := by cases k1 <;> first | rfl | (exact absurd q (by decide))
    subst ek
    obtain ⟨k2, e2, q2⟩ := look_rel (sc := X.env.scope) e
    have ek2 : k2 = .globalImplicit := by
      rcases q2 with q2 | ⟨q2, _⟩
      · exact q2
      · cases q2
    subst ek2
    exact ⟨e2, h.2.1, of_decide_eq_false h.2.2⟩

/-! ### targets -/
structure RunG (X : Cx) (tg : Expr) (v : V) (σ : L2.St) (H : Hp) (Q : L2.St → Hp → Prop) : Prop where
  go : ∀ (pins : List (Addr × Obj)) (s : Shared) (u : Value), Inv X pins σ H s → RelV v u →
    wpAny (model X.prog X.w) X.A (assign tg X.env u) (fun _ s' => ∃ σ' H', Inv X pins σ' H' s' ∧ Q σ' H') X.xe s
theorem pg_run {X : Cx} {tg : Expr} : PG X tg (fun v σ H Q => RunG X tg v σ H Q) := ⟨fun pins s _ _ v u _ I r h => h.go pins s u I r⟩
theorem run_pg {X : Cx} {tg : Expr} {g : TG} {v : V} {σ : L2.St} {H : Hp} {Q : L2.St → Hp → Prop} (p : PG X tg g) (h : g v σ H Q) : RunG X tg v σ H Q := ⟨fun pins s u I r => p.run pins s σ H v u Q I r h⟩
/-- only these slots are others -/
def Chg (ns : List Nat) (σ σ' : L2.St) : Prop := σ'.length = σ.length ∧ ∀ j, j ∉ ns → σ'[j]? = σ[j]?
theorem Chg.refl {σ : L2.St} {ns : List Nat} : Chg ns σ σ := ⟨rfl, fun _ _ => rfl⟩
theorem Chg.set {σ : L2.St} {n : Nat} {v : Option V} : Chg [n] σ (σ.set n v) := ⟨List.length_set, fun j hj => List.getElem?_set_ne (fun e => hj (by simp [e]))⟩
theorem Chg.trans {σ σ1 σ2 : L2.St} {a b : List Nat} (h : Chg a σ σ1) (g : Chg b σ1 σ2) : Chg (a ++ b) σ σ2 :=
  ⟨g.1.trans h.1, fun j hj => (g.2 j fun e => hj (by simp [e])).trans (h.2 j fun e => hj (by simp [e]))⟩
theorem wipe_get (σ : L2.St) (j : Nat) : ∀ vs : List Nat, (wipe σ vs)[j]? = if j ∈ vs ∧ j < σ.length then some none else σ[j]?
  | [] => by simp [wipe]
  | v :: vs => by
    unfold wipe
    by_cases h : v = j
    · subst h
      by_cases hl : v < σ.length
      · rw [List.getElem?_set_self (by rw [wipe_length]; exact hl), if_pos ⟨by simp, hl⟩]
      · rw [List.getElem?_eq_none (by rw [List.length_set, wipe_length]; omega), if_neg (fun q => hl q.2), List.getElem?_eq_none (by omega)]
    · rw [List.getElem?_set_ne h, wipe_get σ j vs]
      have e : (j ∈ v :: vs) ↔ j ∈ vs := by
        rw [List.mem_cons]
        exact ⟨fun q => q.resolve_left fun e => h e.symm, .inr⟩
      simp only [e]
theorem wipe_chg {σ σ2 : L2.St} {ns vs : List Nat} (h : Chg ns (wipe σ vs) σ2) (hs : ∀ j ∈ ns, j ∈ vs) : wipe σ2 vs = wipe σ vs := by
  apply List.ext_getElem?
  intro j
  have hl : σ2.length = σ.length := h.1.trans (wipe_length σ vs)
  rw [wipe_get, wipe_get, hl]
  by_cases hj : j ∈ vs ∧ j < σ.length
  · rw [if_pos hj, if_pos hj]
  · rw [if_neg hj, if_neg hj]
    by_cases hv : j ∈ vs
    · have : ¬ j < σ.length := fun q => hj ⟨hv, q⟩
      rw [List.getElem?_eq_none (by omega), List.getElem?_eq_none (by omega)]
    · rw [h.2 j fun q => hv (hs j q), wipe_get, if_neg hj]
/-- the description without these slots -/
def wipeR (ρ : Rho) : List Nat → Rho
  | [] => ρ
  | v :: vs => (wipeR ρ vs).set v .no
theorem Fm.wipe {P : Program} {w : World} {K : PySem.W.Frag} {F0 H0 F H : Hp} {ρ : Rho} {σ : L2.St} (E : Fm P w K F0 H0 ρ σ F H) : ∀ vs : List Nat, Fm P w K F0 H0 (wipeR ρ vs) (L2.wipe σ vs) F H
  | [] => E
  | v :: vs => (E.wipe vs).drop
/-- a target takes d: ns the slots -/
def WG (X : Cx) (F0 H0 : Hp) (ρ : Rho) (tg : Expr) (ns : List Nat) (d : D) (PR : Rho → Prop) : Prop := ∀ (σ : L2.St) (F H : Hp) (v : V) (Q : L2.St → Hp → Prop), FmX X F0 H0 ρ σ F H → RepX X F d v →
  (∀ ρ' σ', PR ρ' → FmX X F0 H0 ρ' σ' F H → Chg ns σ σ' → Q σ' H) → RunG X tg v σ H Q
section
variable {X : Cx} {F0 H0 : Hp} {ρ ρ' : Rho} {N L A G : List Str} {k : Nat} {PR : Rho → Prop} {d : D} {pos : Pos}
theorem wg_name {x : Str} {n : Nat} {s : Sl} (C : Cxt X N L A G k) (h : Lk N ρ x n s) (m : x ∈ A) (p : Pt ρ n (.d d) ρ') (q : PR ρ') : WG X F0 H0 ρ (.Name x pos) [n] d PR := fun σ F H v Q E r kk => by
  obtain ⟨hx, hf⟩ := C.asg x m
  have e := p.eq
  subst e
  exact run_pg (pg_name (i := n) (by rw [C.hN]; exact C.nd) (by rw [C.hN]; exact h.n) hx hf) (kk _ _ q (E.setD r) Chg.set)
/-- several targets take the items of a tuple -/
def WGs (X : Cx) (F0 H0 : Hp) (ρ : Rho) (tgs : List Expr) (ns : List Nat) (ds : List D) (PR : Rho → Prop) : Prop := ∃ t : TGs, PGs X tgs t ∧ ∀ (σ : L2.St) (F H : Hp) (vs : List V) (Q : L2.St → Hp → Prop), FmX X F0 H0 ρ σ F H → RepsX X F ds vs →
  (∀ ρ' σ', PR ρ' → FmX X F0 H0 ρ' σ' F H → Chg ns σ σ' → Q σ' H) → t vs σ H Q
theorem wgs_nil (q : PR ρ) : WGs X F0 H0 ρ [] [] [] PR := ⟨_, pgs_nil, fun σ F H vs Q E r kk => by
  cases r
  exact ⟨rfl, kk _ _ q E Chg.refl⟩⟩
theorem wgs_cons {e : Expr} {es : List Expr} {n1 ns : List Nat} {ds : List D} (hs : (assignEach (e :: es) X.env).map (·.2) = assign e X.env :: (assignEach es X.env).map (·.2)) (h1 : WG X F0 H0 ρ e n1 d fun ρ1 => ρ1 = ρ') (h2 : WGs X F0 H0 ρ' es ns ds PR) : WGs X F0 H0 ρ (e :: es) (n1 ++ ns) (d :: ds) PR := by
  obtain ⟨t, pt, h2⟩ := h2
  refine ⟨_, pgs_cons pg_run pt hs, fun σ F H vs Q E r kk => ?_⟩
  cases r with
  | cons r1 r2 =>
    refine ⟨_, _, rfl, ?_⟩
    refine h1 σ F H _ _ E r1 fun ρ1 σ1 e E1 c1 => ?_
    subst e
    exact h2 σ1 F H _ Q E1 r2 fun ρ2 σ2 p E2 c2 => kk ρ2 σ2 p E2 (c1.trans c2)
theorem wg_tup {es : List Expr} {kk' : Nat} {ns : List Nat} {ds : List D} {n : Nat} (C : Cxt X N L A G k) (hd : d = .tup ds) (h : WGs X F0 H0 ρ es ns ds PR) (hl : ds.length = n)
    (hn : (assignEach es X.env).length = n := by rfl) (hst : (assignEach es X.env).findIdx? (·.1) = none := by rfl) : WG X F0 H0 ρ (.Tuple es kk' pos) ns d PR := fun σ F H v Q E r kk => by
  obtain ⟨t, pt, h⟩ := h
  subst hd
  refine run_pg (pg_tup C.calm pt hn hst) ?_
  cases r with
  | tup hq r => exact ⟨_, _, rfl, Same.tupS E.sub hq, by rw [← r.length]; exact hl, h σ F H _ Q E r kk⟩
end

/-! ### walks -/
structure WalkD (P : Program) (w : World) (K : PySem.W.Frag) (J : It) (ds : List D) (F : Hp) : Prop where
  goes : ∀ i H, i < ds.length → Same F H → J.go i H
  stops : ∀ H, Same F H → J.stop ds.length H
  yields : ∀ i H x H' F2, i < ds.length → Same F F2 → Same F2 H → J.yld i H x H' → ∃ d F3, ds[i]? = some d ∧ Stp F2 H F3 H' ∧ Rep P w K F3 d x
def WI (X : Cx) (F0 H0 : Hp) (ρ : Rho) (tg iter : Expr) (PL : List D → Prop) : Prop := ∀ (σ : L2.St) (F H : Hp) (R : It → Hp → Prop), FmX X F0 H0 ρ σ F H → (∀ J ds F' H', PL ds → Stp F H F' H' → WalkD X.prog X.w X.K J ds F' → R J H') → RunI X tg iter σ H R
section
variable {X : Cx} {F0 H0 : Hp} {ρ ρ' : Rho} {N L A G : List Str} {k : Nat} {PL : List D → Prop} {tg e iter : Expr} {pos : Pos}
theorem walk_tupD {P : Program} {w : World} {K : PySem.W.Frag} {a : Addr} {vs : List V} {ds : List D} {F : Hp} (hq : SqT K F a vs) (r : Reps P w K F ds vs) : WalkD P w K (Itt K a) ds F where
  goes := fun i H hi s => by
    obtain ⟨v, e, _⟩ := r.get (List.getElem?_eq_getElem hi)
    exact ⟨vs, v, Same.tupS s hq, e⟩
  stops := fun H s => ⟨vs, Same.tupS s hq, by rw [r.length]; exact Nat.le_refl _⟩
  yields := fun i H x H' F2 hi s1 s2 y => by
    obtain ⟨rfl, y⟩ := y
    obtain ⟨v, e, rv⟩ := r.get (List.getElem?_eq_getElem hi)
    have ex := y vs (Same.tupS (s1.trans s2) hq)
    rw [e] at ex; cases ex
    exact ⟨_, F2, List.getElem?_eq_getElem hi, Stp.refl s2, rv.mono s1⟩
theorem walk_lstD {P : Program} {w : World} {K : PySem.W.Frag} {a : Addr} {vs : List V} {ds : List D} {F : Hp} (hq : F a = some (.lst vs)) (r : Reps P w K F ds vs) : WalkD P w K (Itl K a) ds F where
  goes := fun i H hi s => by
    obtain ⟨v, e, _⟩ := r.get (List.getElem?_eq_getElem hi)
    exact ⟨vs, v, SqL.of (s _ _ hq), e⟩
  stops := fun H s => ⟨vs, SqL.of (s _ _ hq), by rw [r.length]; exact Nat.le_refl _⟩
  yields := fun i H x H' F2 hi s1 s2 y => by
    obtain ⟨rfl, y⟩ := y
    obtain ⟨v, e, rv⟩ := r.get (List.getElem?_eq_getElem hi)
    have ex := y vs (SqL.of ((s1.trans s2) _ _ hq))
    rw [e] at ex; cases ex
    exact ⟨_, F2, List.getElem?_eq_getElem hi, Stp.refl s2, rv.mono s1⟩
theorem wi_tup (h : WD X F0 H0 ρ e fun d => ∃ xs, d = .tup xs ∧ PL xs) : WI X F0 H0 ρ tg e PL := fun σ F H R E kk =>
  run_pi (pi_tup pe_run) (h σ F H _ E fun d v F1 H1 h1 s1 r1 => by
    obtain ⟨xs, rfl, p⟩ := h1
    cases r1 with
    | tup hq r => exact ⟨_, rfl, ⟨_, Same.tupS s1.sub hq⟩, kk _ _ F1 H1 p s1 (walk_tupD hq r)⟩)
theorem wi_lst (h : WD X F0 H0 ρ e fun d => ∃ xs, d = .lst xs ∧ PL xs) : WI X F0 H0 ρ tg e PL := fun σ F H R E kk =>
  run_pi (pi_list pe_run) (h σ F H _ E fun d v F1 H1 h1 s1 r1 => by
    obtain ⟨xs, rfl, p⟩ := h1
    cases r1 with
    | lst hq r => exact ⟨_, rfl, ⟨_, SqL.of (s1.sub _ _ hq)⟩, kk _ _ F1 H1 p s1 (walk_lstD hq r)⟩)
/-- 0, 1, .. n - 1 -/
def upto (n : Nat) : List D := (List.range n).map fun i => .int (i : Nat)
theorem upto_get {n i : Nat} (h : i < n) : (upto n)[i]? = some (.int (i : Nat)) := by unfold upto; rw [List.getElem?_map, List.getElem?_range h]; rfl
theorem upto_length (n : Nat) : (upto n).length = n := by simp [upto]
theorem wi_range {p : Pos} (C : Cxt X N L A G k) (m : ("range" : Str) ∈ G) (hm : X.mg "range" = none) (h : WD X F0 H0 ρ e fun d => ∃ n : Nat, d = .int n ∧ n ≤ 1000000 ∧ PL (upto n)) (hs : starEach [e] X.env = [(false, eval e X.env)] := by rfl) : WI X F0 H0 ρ tg (.Call (.Name "range" p) [e] [] pos) PL := fun σ F H R E kk =>
  run_pi (pi_range1 (C.glo _ m).1 hm (pa_cons pe_run pa_nil (by rw [hs]; rfl)) hs) (h σ F H _ E fun d v F1 H1 h1 s1 r1 => by
    obtain ⟨n, rfl, hn, p⟩ := h1
    cases r1
    refine ⟨n, rfl, by omega, by omega, ?_⟩
    rw [Int.toNat_natCast]
    refine kk _ _ F1 H1 p s1 ⟨fun i H hi _ => by rw [upto_length] at hi; exact hi, fun H _ => by rw [upto_length]; exact Nat.le_refl _, fun i H x H' F2 hi s2 s3 y => ?_⟩
    obtain ⟨rfl, rfl⟩ := y
    rw [upto_length] at hi
    exact ⟨_, F2, upto_get hi, Stp.refl s3, by rw [Int.zero_add]; exact .int _⟩)
/-- enumerate(t): pairs -/
def enumD (xs : List D) : List D := (List.range xs.length).map fun i => .tup [.int (i : Nat), xs.getD i .non]
theorem enumD_length (xs : List D) : (enumD xs).length = xs.length := by simp [enumD]
theorem enumD_get {xs : List D} {i : Nat} {d : D} (h : xs[i]? = some d) : (enumD xs)[i]? = some (.tup [.int (i : Nat), d]) := by
  have hi := (List.getElem?_eq_some_iff.mp h).1
  unfold enumD
  rw [List.getElem?_map, List.getElem?_range hi]
  simp [List.getD, h]
theorem wi_enum {elts : List Expr} {kk' : Nat} {p tpos : Pos} (C : Cxt X N L A G k) (m : ("enumerate" : Str) ∈ G) (hm : X.mg "enumerate" = none) (h : WD X F0 H0 ρ e fun d => ∃ xs, d = .tup xs ∧ PL (enumD xs)) (hs : starEach [e] X.env = [(false, eval e X.env)] := by rfl) :
    WI X F0 H0 ρ (.Tuple elts kk' tpos) (.Call (.Name "enumerate" p) [e] [] pos) PL := fun σ F H R E kk =>
  run_pi (pi_enumT (C.glo _ m).1 hm (pa_cons pe_run pa_nil (by rw [hs]; rfl)) hs) (h σ F H _ E fun d v F1 H1 h1 s1 r1 => by
    obtain ⟨xs, rfl, p⟩ := h1
    cases r1 with
    | @tup a vs _ hq r =>
      refine ⟨a, vs, rfl, Same.tupS s1.sub hq, kk _ _ F1 H1 p s1 ⟨fun i H hi s => ?_, fun H s => ?_, fun i H x H' F2 hi s2 s3 y => ?_⟩⟩
      · rw [enumD_length] at hi
        obtain ⟨v, e, _⟩ := r.get (List.getElem?_eq_getElem hi)
        exact ⟨vs, v, Same.tupS s hq, e⟩
      · exact ⟨vs, Same.tupS s hq, by rw [enumD_length, r.length]; exact Nat.le_refl _⟩
      · rw [enumD_length] at hi
        obtain ⟨T, x', rfl, hT, rfl, y⟩ := y
        obtain ⟨v, e, rv⟩ := r.get (List.getElem?_eq_getElem hi)
        have ex := y vs (Same.tupS (s2.trans s3) hq)
        rw [e] at ex; cases ex
        exact ⟨_, _, enumD_get (List.getElem?_eq_getElem hi), Stp.new s3 hT, .tup (SqT.of upd_same) (.cons (.int _) (.cons (rv.mono (s2.trans (Stp.new s3 hT).ff)) .nil))⟩)
/-- zip of two tuples -/
theorem zip_get {xs ys : List D} {i : Nat} {d d' : D} (h : xs[i]? = some d) (h' : ys[i]? = some d') : ((xs.zip ys).map fun p => D.tup [p.1, p.2])[i]? = some (.tup [d, d']) := by
  rw [List.getElem?_map, List.getElem?_zip_eq_some (z := (d, d')).mpr ⟨h, h'⟩]
  rfl
theorem wi_zip {e2 : Expr} {elts : List Expr} {kk' : Nat} {p tpos : Pos} (C : Cxt X N L A G k) (m : ("zip" : Str) ∈ G) (hm : X.mg "zip" = none) (h : WD X F0 H0 ρ e fun d => ∃ xs, d = .tup xs ∧ WD X F0 H0 ρ e2 fun d2 => ∃ ys, d2 = .tup ys ∧ PL ((xs.zip ys).map fun p => .tup [p.1, p.2]))
    (hs : starEach [e, e2] X.env = (false, eval e X.env) :: starEach [e2] X.env := by rfl) (hs2 : starEach [e2] X.env = (false, eval e2 X.env) :: starEach [] X.env := by rfl) (hpl : (backTo pos (starEach [e2] X.env)).any (·.1) = false := by rfl) : WI X F0 H0 ρ (.Tuple elts kk' tpos) (.Call (.Name "zip" p) [e, e2] [] pos) PL := fun σ F H R E kk =>
  run_pi (RZ.pi_zipA (C.glo _ m).1 hm (pa_cons pe_run (pa_cons pe_run pa_nil hs2) hs) hs hpl) (h σ F H _ E fun d v F1 H1 h1 s1 r1 => by
    obtain ⟨xs, rfl, h1⟩ := h1
    refine h1 σ F1 H1 _ (E.stp s1) fun d2 v2 F2 H2 h2 s2 r2 => ?_
    obtain ⟨ys, rfl, p⟩ := h2
    cases r1 with
    | @tup a vs _ hq r =>
      cases r2 with
      | @tup b ws _ hq' r' =>
        have hq2 := Same.tupS s2.ff hq
        have r2 := r.mono s2.ff
        refine ⟨a, b, vs, ws, rfl, .inr ⟨Same.tupS s2.sub hq2, Same.tupS s2.sub hq', kk _ _ F2 H2 p (s1.trans s2) ⟨fun i H hi s => ?_, fun H s => ?_, fun i H x H' F3 hi s3 s4 y => ?_⟩⟩⟩
        · rw [List.length_map, List.length_zip] at hi
          obtain ⟨v, e, _⟩ := r2.get (List.getElem?_eq_getElem (show i < xs.length by omega))
          obtain ⟨v', e', _⟩ := r'.get (List.getElem?_eq_getElem (show i < ys.length by omega))
          exact ⟨vs, ws, v, v', Same.tupS s hq2, Same.tupS s hq', e, e'⟩
        · refine ⟨vs, ws, Same.tupS s hq2, Same.tupS s hq', ?_⟩
          rw [List.length_map, List.length_zip, ← r2.length, ← r'.length]
          omega
        · rw [List.length_map, List.length_zip] at hi
          obtain ⟨T, x', y', rfl, hT, rfl, y1, y2⟩ := y
          obtain ⟨v, e, rv⟩ := r2.get (List.getElem?_eq_getElem (show i < xs.length by omega))
          obtain ⟨v', e', rv'⟩ := r'.get (List.getElem?_eq_getElem (show i < ys.length by omega))
          have ex := y1 vs (Same.tupS (s3.trans s4) hq2)
          rw [e] at ex; cases ex
          have ey := y2 ws (Same.tupS (s3.trans s4) hq')
          rw [e'] at ey; cases ey
          have st := Stp.new (o := .tup [x', y']) s4 hT
          exact ⟨_, _, zip_get (List.getElem?_eq_getElem (show i < xs.length by omega)) (List.getElem?_eq_getElem (show i < ys.length by omega)), st, .tup (SqT.of upd_same) (.cons (rv.mono (s3.trans st.ff)) (.cons (rv'.mono (s3.trans st.ff)) .nil))⟩)
/-- a dict by ints: its keys, values, items -/
theorem repK_get {P : Program} {w : World} {K : PySem.W.Frag} {F : Hp} : ∀ {xs : List (Int × D)} {kvs : List (Key × V)} {i : Nat} {p : Int × D}, RepK P w K F xs kvs → xs[i]? = some p → ∃ v, kvs[i]? = some (.inl p.1, v) ∧ Rep P w K F p.2 v
  | _, _, _, _, .nil, e => by simp at e
  | _, _, 0, _, .cons h _, e => by simp at e; subst e; exact ⟨_, rfl, h⟩
  | _, _, i + 1, p, .cons _ t, e => by
    obtain ⟨u, h1, h2⟩ := repK_get (i := i) (p := p) t (by simpa using e)
    exact ⟨u, by simpa using h1, h2⟩
theorem wi_keysK (h : WD X F0 H0 ρ e fun d => ∃ xs : List (Int × D), d = .dk xs ∧ PL (xs.map fun p => .int p.1)) : WI X F0 H0 ρ tg e PL := fun σ F H R E kk =>
  run_pi (pi_keys pe_run) (h σ F H _ E fun d v F1 H1 h1 s1 r1 => by
    obtain ⟨xs, rfl, p⟩ := h1
    cases r1 with
    | @dk a o kvs _ hq r =>
      refine ⟨a, o, rfl, .inl ⟨kvs, s1.sub _ _ hq, kk _ _ F1 H1 p s1 ⟨fun i H hi s => ?_, fun H s => ?_, fun i H x H' F2 hi s2 s3 y => ?_⟩⟩⟩
      · rw [List.length_map] at hi
        exact ⟨s _ _ hq, by rw [← r.length]; exact hi⟩
      · exact ⟨s _ _ hq, by rw [List.length_map, r.length]; exact Nat.le_refl _⟩
      · rw [List.length_map] at hi
        obtain ⟨rfl, kx, vx, e, rfl⟩ := y
        obtain ⟨v, e', rv⟩ := repK_get r (List.getElem?_eq_getElem hi)
        rw [e] at e'; cases e'
        exact ⟨.int xs[i].1, F2, by rw [List.getElem?_map, List.getElem?_eq_getElem hi]; rfl, Stp.refl s3, .int _⟩)
theorem wi_valuesK {apos cpos : Pos} (h : WD X F0 H0 ρ e fun d => ∃ xs : List (Int × D), d = .dk xs ∧ PL (xs.map (·.2))) (hbase : attributeBase e "values" X.env (eval e X.env) = eval e X.env := by rfl) (hline : (apos.endLine == cpos.line) = true := by rfl) : WI X F0 H0 ρ tg (.Call (.Attribute e "values" apos) [] [] cpos) PL := fun σ F H R E kk =>
  run_pi (pi_values pe_run hbase hline) (h σ F H _ E fun d v F1 H1 h1 s1 r1 => by
    obtain ⟨xs, rfl, p⟩ := h1
    cases r1 with
    | @dk a o kvs _ hq r =>
      refine ⟨a, o, kvs, rfl, s1.sub _ _ hq, kk _ _ F1 H1 p s1 ⟨fun i H hi s => ?_, fun H s => ?_, fun i H x H' F2 hi s2 s3 y => ?_⟩⟩
      · rw [List.length_map] at hi
        exact ⟨s _ _ hq, by rw [← r.length]; exact hi⟩
      · exact ⟨s _ _ hq, by rw [List.length_map, r.length]; exact Nat.le_refl _⟩
      · rw [List.length_map] at hi
        obtain ⟨rfl, kx, e⟩ := y
        obtain ⟨v, e', rv⟩ := repK_get r (List.getElem?_eq_getElem hi)
        rw [e] at e'; cases e'
        exact ⟨xs[i].2, F2, by rw [List.getElem?_map, List.getElem?_eq_getElem hi]; rfl, Stp.refl s3, rv.mono s2⟩)
theorem wi_itemsK {elts : List Expr} {kk' : Nat} {tpos apos cpos : Pos} (h : WD X F0 H0 ρ e fun d => ∃ xs : List (Int × D), d = .dk xs ∧ PL (rowsD xs)) (hbase : attributeBase e "items" X.env (eval e X.env) = eval e X.env := by rfl) (hline : (apos.endLine == cpos.line) = true := by rfl) :
    WI X F0 H0 ρ (.Tuple elts kk' tpos) (.Call (.Attribute e "items" apos) [] [] cpos) PL := fun σ F H R E kk =>
  run_pi (pi_items pe_run hbase hline) (h σ F H _ E fun d v F1 H1 h1 s1 r1 => by
    obtain ⟨xs, rfl, p⟩ := h1
    cases r1 with
    | @dk a o kvs _ hq r =>
      have hl : (rowsD xs).length = xs.length := List.length_map ..
      refine ⟨a, o, kvs, rfl, s1.sub _ _ hq, kk _ _ F1 H1 p s1 ⟨fun i H hi s => ?_, fun H s => ?_, fun i H x H' F2 hi s2 s3 y => ?_⟩⟩
      · rw [hl] at hi
        exact ⟨s _ _ hq, by rw [← r.length]; exact hi⟩
      · exact ⟨s _ _ hq, by rw [hl, r.length]; exact Nat.le_refl _⟩
      · rw [hl] at hi
        obtain ⟨T, kx, vx, e, rfl, hT, rfl⟩ := y
        obtain ⟨v, e', rv⟩ := repK_get r (List.getElem?_eq_getElem hi)
        rw [e] at e'; cases e'
        have st := Stp.new (o := .tup [kV (.inl xs[i].1), vx]) s3 hT
        exact ⟨.tup [.int xs[i].1, xs[i].2], _, by unfold rowsD; rw [List.getElem?_map, List.getElem?_eq_getElem hi]; rfl, st, .tup (SqT.of upd_same) (.cons (.int _) (.cons (rv.mono (s2.trans st.ff)) .nil))⟩)
end
end W3
end
section
set_option Elab.async false
set_option linter.all false
set_option maxRecDepth 100000
set_option maxHeartbeats 2000000
/-! LG: list comprehensions. -/
namespace W3
open PySem PySem.Spec PyProof.Rows L2

/-- what a comprehension's block is over -/
structure Bq where
  s : Shared
  H : Hp
  C : Addr
  cl : List (Str × Addr)
  fp : List Addr
abbrev Bq.cx (q : Bq) (X : Cx) (scope : Scope) : Cx := X.blk q.s q.H scope (compEnvC scope q.cl q.C X.env) q.fp
theorem cxt_q {X : Cx} {N L A G L' A' G' : List Str} {k : Nat} {scope : Scope} (C : Cxt X N L A G k) (q : Bq) (hL : okL scope L' = true) (hA : (A'.all fun x => inKind scope [.local] x) = true) (hG : okG scope G' = true) : Cxt (q.cx X scope) N L' A' G' k :=
  cxt_blk C ⟨q.s, q.H, q.C, q.cl, q.fp, rfl⟩ hL hA hG

/-- the tests of a comprehension -/
def WTs (X : Cx) (scope : Scope) (F0 H0 : Hp) (ρ : Rho) (ifs : List Expr) (PB : Bool → Prop) : Prop := match ifs with
  | [] => PB true
  | [c] => ∀ q : Bq, WT (q.cx X scope) F0 H0 ρ c PB
  | _ => False
def tIfs (X : Cx) (scope : Scope) (ifs : List Expr) : TT := match ifs with
  | [] => tYes
  | [c] => fun σ H Q => ∀ q : Bq, RunT (q.cx X scope) c σ H Q
  | _ => fun _ _ _ => False
theorem pts_ifs {X : Cx} {scope : Scope} (q : Bq) : ∀ ifs : List Expr, PTs (q.cx X scope) ifs (tIfs X scope ifs)
  | [] => pts_nil
  | [c] => pts_one ⟨fun pins s σ H Q I h => (h q).go pins s I⟩
  | _ :: _ :: _ => ⟨fun _ _ _ _ _ _ h => h.elim⟩
theorem run_ifs {X : Cx} {F0 H0 : Hp} {ρ : Rho} {scope : Scope} {σ : L2.St} {F H : Hp} {Q : Bool → Hp → Prop} {PB : Bool → Prop} : ∀ {ifs : List Expr}, WTs X scope F0 H0 ρ ifs PB → FmX X F0 H0 ρ σ F H → (∀ b F' H', PB b → Stp F H F' H' → Q b H') → tIfs X scope ifs σ H Q
  | [], h, E, kk => kk true F H h E.st
  | [c], h, E, kk => fun q => h q σ F H Q E kk
  | _ :: _ :: _, h, _, _ => h.elim

/-- the object at p, which is no slot's own and not frozen, becomes another -/
theorem Fm.put {P : Program} {w : World} {K : PySem.W.Frag} {F0 H0 F H : Hp} {ρ : Rho} {σ : L2.St} (E : Fm P w K F0 H0 ρ σ F H) {p : Addr} {o : HO} (hf : F p = none) (h0 : H0 p = none)
    (ap : ∀ (i : Nat) (y : Sl), ρ[i]? = some y → y.isOwn = true → σ[i]? ≠ some (some (V.ref p))) : Fm P w K F0 H0 ρ σ F (upd H p o) := by
  refine ⟨fun b u e => ?_, E.f0, fun b u e => ?_, E.out, E.len, E.dat, fun i x e q => ?_, E.one⟩
  · rw [upd_ne (ne_of_none e hf)]; exact E.sub b u e
  · rw [upd_ne (ne_of_none e h0)]; exact E.h0 b u e
  · obtain ⟨a, e1, e2, e3, e4⟩ := E.own i x e q
    have ne : a ≠ p := fun z => ap i x e q (by rw [e1, z])
    exact ⟨a, e1, e2.mono (Same.refl F) (fun o ho => by rw [upd_ne ne]; exact ho), e3, e4⟩
section
variable {X : Cx} {F0 H0 : Hp} {ρ : Rho} {N L A G : List Str} {k : Nat} {PF : List D → Prop} {elt tg iter : Expr} {ifs : List Expr} {scope : Scope} {own : List (Str × Nat)} {pos : Pos}
/-- [elt for tg in iter if ..]: I tells what has been gathered from the first i items -/
theorem tlc_run {ns : List Nat} {σ : L2.St} {F H : Hp} {Q : VK} (hns : ∀ j ∈ ns, j ∈ own.map (·.2))
    (h : WI X F0 H0 ρ tg iter fun ds => ds.length ≤ sizeLine ∧ ∃ I : Nat → List D → Prop, I 0 [] ∧ (∀ acc, I ds.length acc → PF acc) ∧ ∀ i d acc, ds[i]? = some d → I i acc →
      ∀ q : Bq, WG (q.cx X scope) F0 H0 (wipeR ρ (own.map (·.2))) tg ns d fun ρ1 => WTs X scope F0 H0 ρ1 ifs fun b => if b = true then ∀ q : Bq, WD (q.cx X scope) F0 H0 ρ1 elt fun y => I (i + 1) (acc ++ [y]) else I (i + 1) acc)
    (E : FmX X F0 H0 ρ σ F H) (kk : ∀ ds p vs F' H', PF ds → Stp F H F' H' → H p = none → F' p = none → H' p = some (.lst vs) → RepsX X F' ds vs → Q (.ref p) H') :
    tLc (fun σ H R => RunI X tg iter σ H R) (fun v σ H Q => ∀ q : Bq, RunG (q.cx X scope) tg v σ H Q) (tIfs X scope ifs) (fun σ H Q => ∀ q : Bq, RunE (q.cx X scope) elt σ H Q) (own.map (·.2)) σ H Q := by
  refine h σ F H _ E fun J ds F1 H1 p1 s1 wk => ?_
  obtain ⟨hz, I, i0, iend, istep⟩ := p1
  intro D hD
  have fD : F1 D = none := s1.sub.free hD
  refine ⟨fun i m H2 => ∃ F2 acc vs, i + m = ds.length ∧ I i acc ∧ acc.length ≤ i ∧ Fm X.prog X.w X.K F0 H0 (wipeR ρ (own.map (·.2))) (L2.wipe σ (own.map (·.2))) F2 H2 ∧ Stp F1 H1 F2 H2 ∧ H2 D = some (.lst vs) ∧ F2 D = none ∧ RepsX X F2 acc vs, ⟨ds.length, F1, [], [], Nat.zero_add _, i0, Nat.le_refl _, ((E.stp s1).stp (Stp.newO s1.sub hD)).wipe _, Stp.newO s1.sub hD, upd_same, fD, .nil⟩, ?_⟩
  rintro i m H2 ⟨F2, acc, vs, e, hi, hl, E2, s2, hHD, hFD, ra⟩
  rcases m with _ | m
  · refine .inl ⟨?_, ?_⟩
    · rw [show i = ds.length by omega]; exact wk.stops H2 (s2.ff.trans s2.sub)
    · refine kk acc D vs F2 H2 (iend acc (by rw [show ds.length = i by omega]; exact hi)) (s1.trans s2) (s1.free hD) hFD hHD ra
  · have hlt : i < ds.length := by omega
    refine .inr ⟨wk.goes i H2 hlt (s2.ff.trans s2.sub), fun H2 => ∃ F2 acc vs, I (i + 1) acc ∧ acc.length ≤ i + 1 ∧ Fm X.prog X.w X.K F0 H0 (wipeR ρ (own.map (·.2))) (L2.wipe σ (own.map (·.2))) F2 H2 ∧ Stp F1 H1 F2 H2 ∧ H2 D = some (.lst vs) ∧ F2 D = none ∧ RepsX X F2 acc vs, ?_, ?_⟩
    · rintro H' ⟨F2, acc, vs, hi, r⟩
      exact ⟨m, Nat.lt_succ_self _, F2, acc, vs, by omega, hi, r⟩
    · intro x H3 y
      obtain ⟨d, F3, ed, s3, rx⟩ := wk.yields i H2 x H3 F2 hlt s2.ff s2.sub y
      have hb := istep i d acc ed hi
      intro q
      refine hb q _ F3 H3 x _ (E2.stp s3) rx fun ρ1 σ1 pr E3 ch => ⟨wipe_chg ch hns, ?_⟩
      refine run_ifs pr E3 fun b F4 H4 pb s4 => ?_
      have st4 := (s2.trans s3).trans s4
      have hD4 : H4 D = some (.lst vs) := s4.hh _ _ (s3.hh _ _ hHD)
      have fD4 : F4 D = none := s4.out _ _ (s3.hh _ _ hHD) (s3.out _ _ hHD hFD)
      cases b with
      | false =>
        rw [if_neg Bool.false_ne_true] at pb ⊢
        exact ⟨F4, acc, vs, pb, Nat.le_succ_of_le hl, (E2.stp s3).stp s4, st4, hD4, fD4, ra.mono (s3.ff.trans s4.ff)⟩
      | true =>
        rw [if_pos rfl] at pb ⊢
        intro q2
        refine pb q2 _ F4 H4 _ (E3.stp s4) fun yv v F5 H5 py s5 ry => ?_
        have hD5 : H5 D = some (.lst vs) := s5.hh _ _ hD4
        have fD5 : F5 D = none := s5.out _ _ hD4 fD4
        have lv : vs.length = acc.length := ra.length.symm
        refine ⟨vs, hD5, by omega, F5, acc ++ [yv], vs ++ [v], py, by rw [List.length_append, List.length_singleton]; omega, ?_, ?_, upd_same, fD5, (ra.mono (s3.ff.trans (s4.ff.trans s5.ff))).append (.cons ry .nil)⟩
        · refine (((E2.stp s3).stp s4).stp s5).put fD5 ((E.h0.trans s1.hh).free hD) fun j x ex qx ej => ?_
          obtain ⟨p, e1, e2, _⟩ := ((E.stp s1).wipe (own.map (·.2))).own j x ex qx
          rw [e1] at ej
          cases ej
          obtain ⟨o, eo⟩ := e2.some
          rw [hD] at eo; cases eo
        · have st5 := st4.trans s5
          refine ⟨st5.ff, fun b u eb => ?_, fun b u eb => ?_, fun b u eb n => st5.out b u eb n⟩
          · rw [upd_ne (ne_of_none eb hD)]; exact st5.hh b u eb
          · rw [upd_ne (ne_of_none eb fD5)]; exact st5.sub b u eb
theorem wf_lc {ns : List Nat} (C : Cxt X N L A G k) (ok : BlkOk X.N X.env.scope scope own) (hns : ∀ j ∈ ns, j ∈ own.map (·.2))
    (h : WI X F0 H0 ρ tg iter fun ds => ds.length ≤ sizeLine ∧ ∃ I : Nat → List D → Prop, I 0 [] ∧ (∀ acc, I ds.length acc → PF acc) ∧ ∀ i d acc, ds[i]? = some d → I i acc →
      ∀ q : Bq, WG (q.cx X scope) F0 H0 (wipeR ρ (own.map (·.2))) tg ns d fun ρ1 => WTs X scope F0 H0 ρ1 ifs fun b => if b = true then ∀ q : Bq, WD (q.cx X scope) F0 H0 ρ1 elt fun y => I (i + 1) (acc ++ [y]) else I (i + 1) acc)
    (hs : ∀ x, foldedSetIterable iter X.env x = pure x := by intro _; rfl) : WF X F0 H0 ρ (.ListComp elt [⟨tg, iter, ifs, 0⟩] scope pos) PF := fun σ F H Q E kk =>
  run_pe (pe_lc C.calm (by rw [C.hN]; exact C.nd) pi_run ok (fun s H Ca cl fp => ⟨fun pins s1 _ _ v u _ I r h => (h ⟨s, H, Ca, cl, fp⟩).go pins s1 u I r⟩) (fun s H Ca cl fp => pts_ifs ⟨s, H, Ca, cl, fp⟩ ifs) (fun s H Ca cl fp => ⟨fun pins s1 _ _ _ I h => (h ⟨s, H, Ca, cl, fp⟩).go pins s1 I⟩) hs)
    (tlc_run hns h E kk)
end
end W3
end
section
set_option Elab.async false
set_option linter.all false
set_option maxRecDepth 100000
set_option maxHeartbeats 2000000
/-! LH: statements. -/
namespace W3
open PySem PySem.Spec PyProof.Rows L2

theorem getSet {α : Type} {l : List α} {n i : Nat} {x y : α} (h : (l.set n x)[i]? = some y) : (i = n ∧ y = x ∧ n < l.length) ∨ (i ≠ n ∧ l[i]? = some y) := by
  by_cases e : n = i
  · subst e
    by_cases hn : n < l.length
    · rw [List.getElem?_set_self hn] at h; cases h
      exact .inl ⟨rfl, rfl, hn⟩
    · rw [List.getElem?_eq_none (by rw [List.length_set]; omega)] at h; cases h
  · rw [List.getElem?_set_ne e] at h
    exact .inr ⟨fun z => e z.symm, h⟩
theorem upd_eta {H : Hp} {p : Addr} {o : HO} (h : H p = some o) : upd H p o = H := by
  funext b
  by_cases e : b = p
  · subst e; rw [upd_same, h]
  · rw [upd_ne e]
section
variable {P : Program} {w : World} {K : PySem.W.Frag} {F0 H0 F H F' H' : Hp} {ρ : Rho} {σ : L2.St}
/-- an own object is frozen -/
theorem Fm.freeze (E : Fm P w K F0 H0 ρ σ F H) {n : Nat} {p : Addr} {o : HO} {x : Sl} {d : D} (hs : σ[n]? = some (some (V.ref p))) (hn : ρ[n]? = some x) (hx : x.isOwn = true) (hF : F p = none) (h0 : H0 p = none) (r : Rep P w K (upd F p o) d (.ref p)) :
    Fm P w K F0 H0 (ρ.set n (.d d)) σ (upd F p o) (upd H p o) := by
  have sm : Same F (upd F p o) := fun b u e => by rw [upd_ne (ne_of_none e hF)]; exact e
  refine ⟨fun b u e => ?_, E.f0.trans sm, fun b u e => ?_, fun b u e q => ?_, by rw [List.length_set]; exact E.len, fun i y e => ?_, fun i y e q => ?_, fun i j x' y p' ne ei ej qi qj si sj => ?_⟩
  · by_cases z : b = p
    · subst z; rw [upd_same] at e ⊢; exact e
    · rw [upd_ne z] at e ⊢; exact E.sub b u e
  · rw [upd_ne (ne_of_none e h0)]; exact E.h0 b u e
  · rw [upd_ne (ne_of_none e h0)]; exact E.out b u e q
  · rcases getSet e with ⟨rfl, e2, _⟩ | ⟨_, e2⟩
    · cases e2; exact ⟨_, hs, r⟩
    · obtain ⟨v, h1, h2⟩ := E.dat i y e2; exact ⟨v, h1, h2.mono sm⟩
  · rcases getSet e with ⟨rfl, e2, _⟩ | ⟨ne, e2⟩
    · subst e2; cases q
    · obtain ⟨a, h1, h2, h3, h4⟩ := E.own i y e2 q
      have hap : a ≠ p := fun z => E.one i n y x p ne e2 hn q hx (by rw [h1, z]) hs
      exact ⟨a, h1, h2.mono sm (fun u hu => by rw [upd_ne hap]; exact hu), by rw [upd_ne hap]; exact h3, h4⟩
  · rcases getSet ei with ⟨_, e2, _⟩ | ⟨_, e2⟩
    · subst e2; cases qi
    · rcases getSet ej with ⟨_, e3, _⟩ | ⟨_, e3⟩
      · subst e3; cases qj
      · exact E.one i j x' y p' ne e2 e3 qi qj si sj
/-- an own object is written -/
theorem Fm.mut (E : Fm P w K F0 H0 ρ σ F H) {n : Nat} {p : Addr} {o : HO} {x y : Sl} (hs : σ[n]? = some (some (V.ref p))) (hn : ρ[n]? = some x) (hx : x.isOwn = true) (hF : F p = none) (h0 : H0 p = none) (hy : y.isOwn = true) (r : OwnAt P w K F (upd H p o) p y) :
    Fm P w K F0 H0 (ρ.set n y) σ F (upd H p o) := by
  refine ⟨fun b u e => ?_, E.f0, fun b u e => ?_, E.out, by rw [List.length_set]; exact E.len, fun i z e => ?_, fun i z e q => ?_, fun i j x' z p' ne ei ej qi qj si sj => ?_⟩
  · rw [upd_ne (ne_of_none e hF)]; exact E.sub b u e
  · rw [upd_ne (ne_of_none e h0)]; exact E.h0 b u e
  · rcases getSet e with ⟨rfl, e2, _⟩ | ⟨_, e2⟩
    · subst e2; cases hy
    · exact E.dat i z e2
  · rcases getSet e with ⟨rfl, e2, _⟩ | ⟨ne, e2⟩
    · subst e2; exact ⟨p, hs, r, hF, h0⟩
    · obtain ⟨a, h1, h2, h3, h4⟩ := E.own i z e2 q
      have hap : a ≠ p := fun z' => E.one i n z x p ne e2 hn q hx (by rw [h1, z']) hs
      exact ⟨a, h1, h2.mono (Same.refl F) (fun u hu => by rw [upd_ne hap]; exact hu), h3, h4⟩
  · have hown : ∀ (k : Nat) (y' : Sl), (ρ.set n y)[k]? = some y' → y'.isOwn = true → ∃ y'', ρ[k]? = some y'' ∧ y''.isOwn = true := fun k y' e q => by
      rcases getSet e with ⟨rfl, e2, _⟩ | ⟨_, e2⟩
      · exact ⟨x, hn, hx⟩
      · exact ⟨y', e2, q⟩
    obtain ⟨x1, a1, b1⟩ := hown i x' ei qi
    obtain ⟨x2, a2, b2⟩ := hown j z ej qj
    exact E.one i j x1 x2 p' ne a1 a2 b1 b2 si sj
end

/-! ### values that may be own -/
/-- s tells of v; Hs the heap before its making -/
def SlV (P : Program) (w : World) (K : PySem.W.Frag) (F H Hs : Hp) : Sl → V → Prop
  | .no, _ => True
  | .d x, v => Rep P w K F x v
  | s, v => ∃ p, v = .ref p ∧ OwnAt P w K F H p s ∧ F p = none ∧ Hs p = none
section
variable {P : Program} {w : World} {K : PySem.W.Frag} {F0 H0 F H Hs F' H' : Hp} {ρ : Rho} {σ : L2.St}
theorem SlV.own {s : Sl} {v : V} (h : SlV P w K F H Hs s v) (q : s.isOwn = true) : ∃ p, v = .ref p ∧ OwnAt P w K F H p s ∧ F p = none ∧ Hs p = none := by
  cases s with
  | no => cases q
  | d x => cases q
  | _ => exact h
theorem SlV.of {s : Sl} {p : Addr} (q : s.isOwn = true) (h : OwnAt P w K F H p s ∧ F p = none ∧ Hs p = none) : SlV P w K F H Hs s (.ref p) := by
  cases s with
  | no => cases q
  | d x => cases q
  | _ => exact ⟨p, rfl, h⟩
theorem SlV.stp {s : Sl} {v : V} (h : SlV P w K F H Hs s v) (st : Stp F H F' H') : SlV P w K F' H' Hs s v := by
  by_cases q : s.isOwn = true
  · obtain ⟨p, rfl, o, e, n⟩ := h.own q
    obtain ⟨u, hu⟩ := o.some
    exact SlV.of q ⟨o.mono st.ff (fun o => st.hh p o), st.out p u hu e, n⟩
  · cases s with
    | no => trivial
    | d x => exact Rep.mono st.ff h
    | _ => exact absurd rfl q
/-- a slot takes what s tells -/
theorem Fm.setV (E : Fm P w K F0 H0 ρ σ F H) {n : Nat} {s : Sl} {v : V} (r : SlV P w K F H Hs s v) (h0 : Same H0 Hs) (live : ∀ (i : Nat) (x : Sl), ρ[i]? = some x → x.isOwn = true → i ≠ n → ∃ p o, σ[i]? = some (some (V.ref p)) ∧ Hs p = some o) :
    Fm P w K F0 H0 (ρ.set n s) (σ.set n (some v)) F H := by
  by_cases q : s.isOwn = true
  · obtain ⟨p, rfl, o, e, nn⟩ := r.own q
    refine E.setO o e (h0.free nn) q fun i y ei qi ne si => ?_
    obtain ⟨p', o', e1, e2⟩ := live i y ei qi ne
    rw [e1] at si; cases si
    rw [nn] at e2; cases e2
  · cases s with
    | no => exact E.drop
    | d x => exact E.setD r
    | _ => exact absurd rfl q
theorem Fm.live (E : Fm P w K F0 H0 ρ σ F H) : ∀ (i : Nat) (x : Sl), ρ[i]? = some x → x.isOwn = true → ∃ p o, σ[i]? = some (some (V.ref p)) ∧ H p = some o := fun i x e q => by
  obtain ⟨p, e1, e2, _⟩ := E.own i x e q
  obtain ⟨o, ho⟩ := e2.some
  exact ⟨p, o, e1, ho⟩
end

def WV (X : Cx) (F0 H0 : Hp) (ρ : Rho) (e : Expr) (P : Sl → Prop) : Prop := ∀ (σ : L2.St) (F H : Hp) (Q : VK), FmX X F0 H0 ρ σ F H → (∀ s v F' H', P s → Stp F H F' H' → SlV X.prog X.w X.K F' H' H s v → Q v H') → RunE X e σ H Q
/-- a body: nx where it goes on, rt what it answers -/
def WB (X : Cx) (F0 H0 : Hp) (ρ : Rho) (sts : List Stmt) (nx : Rho → Prop) (rt : D → Prop) : Prop := ∀ (σ : L2.St) (F H : Hp) (E : Ends), FmX X F0 H0 ρ σ F H →
  (∀ ρ' σ' F' H', nx ρ' → FmX X F0 H0 ρ' σ' F' H' → Same F F' → E.nx σ' H') → (∀ d v F' H', rt d → Stp F0 H0 F' H' → RepX X F' d v → E.rt v H') → RunB X sts σ H E
def WS (X : Cx) (F0 H0 : Hp) (ρ : Rho) (st : Stmt) (nx : Rho → Prop) (rt : D → Prop) : Prop := ∀ (σ : L2.St) (F H : Hp) (E : Ends), FmX X F0 H0 ρ σ F H →
  (∀ ρ' σ' F' H', nx ρ' → FmX X F0 H0 ρ' σ' F' H' → Same F F' → E.nx σ' H') → (∀ d v F' H', rt d → Stp F0 H0 F' H' → RepX X F' d v → E.rt v H') → RunS X st σ H E

section
variable {X : Cx} {F0 H0 : Hp} {ρ ρ' : Rho} {N L A G : List Str} {k : Nat} {nx : Rho → Prop} {rt : D → Prop} {P : D → Prop} {a b c e : Expr} {es : List Expr} {st : Stmt} {sts : List Stmt} {pos : Pos}
theorem Fm.fin {P : Program} {w : World} {K : PySem.W.Frag} {F H : Hp} {σ : L2.St} (E : Fm P w K F0 H0 ρ σ F H) : Stp F0 H0 F H := ⟨E.f0, E.h0, E.sub, E.out⟩
theorem wv_d {PV : Sl → Prop} (h : WD X F0 H0 ρ e fun d => PV (.d d)) : WV X F0 H0 ρ e PV := fun σ F H Q E kk => h σ F H Q E fun d v F' H' p st r => kk (.d d) v F' H' p st r
theorem wv_f {PV : Sl → Prop} (h : WF X F0 H0 ρ e fun ds => PV (.own ds)) : WV X F0 H0 ρ e PV := fun σ F H Q E kk => h σ F H Q E fun ds p vs F' H' pp st h0 hf hh r => kk (.own ds) _ F' H' pp st ⟨p, rfl, ⟨vs, hh, r⟩, hf, h0⟩
theorem wb_nil (q : nx ρ) : WB X F0 H0 ρ [] nx rt := fun σ F H E0 E k1 _ => run_pss pss_nil (k1 ρ σ F H q E (Same.refl F))
theorem wb_cons (h : WS X F0 H0 ρ st (fun ρ' => WB X F0 H0 ρ' sts nx rt) rt) : WB X F0 H0 ρ (st :: sts) nx rt := fun σ F H E0 E k1 k2 =>
  run_pss (pss_cons ps_run pss_run) (h σ F H _ E (fun ρ' σ' F' H' p E' s => p σ' F' H' E0 E' (fun ρ2 σ2 F2 H2 p2 E2 s2 => k1 ρ2 σ2 F2 H2 p2 E2 (s.trans s2)) k2) k2)
theorem wb_one (h : WS X F0 H0 ρ st nx rt) : WB X F0 H0 ρ [st] nx rt := wb_cons fun σ F H E0 E k1 k2 => h σ F H E0 E (fun ρ' σ' F' H' p E' s => k1 ρ' σ' F' H' (wb_nil p) E' s) k2
theorem WB.mono {nx' : Rho → Prop} (h : WB X F0 H0 ρ sts nx rt) (m : ∀ ρ', nx ρ' → nx' ρ') : WB X F0 H0 ρ sts nx' rt := fun σ F H E0 E k1 k2 => h σ F H E0 E (fun ρ' σ' F' H' p => k1 ρ' σ' F' H' (m ρ' p)) k2
theorem ws_ret (h : WD X F0 H0 ρ e rt) : WS X F0 H0 ρ (.Return (some e) pos) nx rt := fun σ F H E0 E k1 k2 =>
  run_ps (ps_ret pe_run) (h σ F H _ E fun d v F' H' p st r => k2 d v F' H' p (E.fin.trans st) r)
theorem ws_retN (h : rt .non) : WS X F0 H0 ρ (.Return none pos) nx rt := fun σ F H E0 E k1 k2 => run_ps ps_retN (k2 _ _ F H h E.fin .non)
theorem ws_if {ss : List Stmt} (h : WT X F0 H0 ρ c fun t => if t = true then WB X F0 H0 ρ sts nx rt else WB X F0 H0 ρ ss nx rt) : WS X F0 H0 ρ (.If c sts ss pos) nx rt := fun σ F H E0 E k1 k2 =>
  run_ps (ps_if pt_run pss_run pss_run) (h σ F H _ E fun t F' H' p s => by
    cases t with
    | true =>
      rw [if_pos rfl] at p ⊢
      exact p σ F' H' E0 (E.stp s) (fun ρ2 σ2 F2 H2 p2 E2 s2 => k1 ρ2 σ2 F2 H2 p2 E2 (s.ff.trans s2)) k2
    | false =>
      rw [if_neg Bool.false_ne_true] at p ⊢
      exact p σ F' H' E0 (E.stp s) (fun ρ2 σ2 F2 H2 p2 E2 s2 => k1 ρ2 σ2 F2 H2 p2 E2 (s.ff.trans s2)) k2)
theorem ws_drop (h : WD X F0 H0 ρ e fun _ => nx ρ) (hs : swapsWith e none pos.line X.env = pure false := by rfl) : WS X F0 H0 ρ (.Expr e pos) nx rt := fun σ F H E0 E k1 k2 =>
  run_ps (ps_expr pe_run hs) (h σ F H _ E fun d v F' H' p s r => k1 ρ σ F' H' p (E.stp s) s.ff)
theorem ws_asg {tg : Expr} {ns : List Nat} (h : WD X F0 H0 ρ e fun d => WG X F0 H0 ρ tg ns d nx) (hs : swapsWithSole [tg] e pos.line X.env = pure false := by rfl) (hw : swappedStores [tg] e X.env = pure none := by rfl)
    (h1 : (assignEach [tg] X.env).map (·.2) = [assign tg X.env] := by rfl) : WS X F0 H0 ρ (.Assign [tg] e pos) nx rt := fun σ F H E0 E k1 k2 =>
  run_ps (ps_asg pe_run pg_run hs hw h1) (h σ F H _ E fun d v F' H' p s r => p σ F' H' v _ (E.stp s) r fun ρ2 σ2 pr E2 _ => k1 ρ2 σ2 F' H' pr E2 s.ff)
theorem ws_set {x : Str} {n : Nat} {s : Sl} {p' : Pos} (C : Cxt X N L A G k) (l : Lk N ρ x n s) (m : x ∈ A) (h : WV X F0 H0 ρ e fun s => ∃ ρ', Pt ρ n s ρ' ∧ nx ρ') (hs : swapsWith e (some (.Name x p')) pos.line X.env = pure false := by rfl) : WS X F0 H0 ρ (.Assign [.Name x p'] e pos) nx rt := fun σ F H E0 E k1 k2 => by
  obtain ⟨hx, hf⟩ := C.asg x m
  refine run_ps (ps_set (by rw [C.hN]; exact C.nd) (by rw [C.hN]; exact l.n) hx pe_run hs hf) (h σ F H _ E fun s v F' H' p st r => ?_)
  obtain ⟨ρ2, pt, p⟩ := p
  have e := pt.eq
  subst e
  exact k1 _ _ F' H' p ((E.stp st).setV r E.h0 fun i x e q _ => E.live i x e q) st.ff
/-- name = [..] on one line -/
theorem ws_setLc {elt tg iter : Expr} {ifs : List Expr} {scope : Scope} {own : List (Str × Nat)} {x : Str} {n : Nat} {s : Sl} {p' : Pos} {ns : List Nat} {cpos : Pos} (C : Cxt X N L A G k) (l : Lk N ρ x n s) (hyl : X.env.scope.names.lookup x = some .local) (ok : BlkOk X.N X.env.scope scope own) (hns : ∀ j ∈ ns, j ∈ own.map (·.2))
    (hsw : swapsWith (.ListComp elt [⟨tg, iter, ifs, 0⟩] scope cpos) (some (.Name x p')) pos.line X.env = pure true)
    (h : WI X F0 H0 ρ tg iter fun ds => ds.length ≤ sizeLine ∧ ∃ I : Nat → List D → Prop, I 0 [] ∧ (∀ acc, I ds.length acc → ∃ ρ', Pt ρ n (.own acc) ρ' ∧ nx ρ') ∧ ∀ i d acc, ds[i]? = some d → I i acc →
      ∀ q : Bq, WG (q.cx X scope) F0 H0 (wipeR ρ (own.map (·.2))) tg ns d fun ρ1 => WTs X scope F0 H0 ρ1 ifs fun b => if b = true then ∀ q : Bq, WD (q.cx X scope) F0 H0 ρ1 elt fun y => I (i + 1) (acc ++ [y]) else I (i + 1) acc)
    (hs : ∀ x, foldedSetIterable iter X.env x = pure x := by intro _; rfl) : WS X F0 H0 ρ (.Assign [.Name x p'] (.ListComp elt [⟨tg, iter, ifs, 0⟩] scope cpos) pos) nx rt := fun σ F H E0 E k1 k2 =>
  run_ps (ps_setLc C.calm (by rw [C.hN]; exact C.nd) (by rw [C.hN]; exact l.n) hyl hsw pi_run ok (fun s H Ca cl fp => ⟨fun pins s1 _ _ v u _ I r h => (h ⟨s, H, Ca, cl, fp⟩).go pins s1 u I r⟩) (fun s H Ca cl fp => pts_ifs ⟨s, H, Ca, cl, fp⟩ ifs) (fun s H Ca cl fp => ⟨fun pins s1 _ _ _ I h => (h ⟨s, H, Ca, cl, fp⟩).go pins s1 I⟩) hs)
    (tlc_run hns h E fun ds p vs F' H' pp st h0 hf hh r => by
      obtain ⟨ρ2, pt, pp⟩ := pp
      have e := pt.eq
      subst e
      exact k1 _ _ F' H' pp ((E.stp st).setV (Hs := H) (s := .own ds) ⟨p, rfl, ⟨vs, hh, r⟩, hf, h0⟩ E.h0 fun i x e q _ => E.live i x e q) st.ff)
/-- a, b = e1, e2 -/
theorem ws_par2 {x y : Str} {i j : Nat} {si sj : Sl} {px py pt : Pos} {kt k2 : Nat} {pt2 : Pos} (C : Cxt X N L A G k) (li : Lk N ρ x i si) (lj : Lk N ρ y j sj) (hij : i ≠ j) (hx : X.env.scope.names.lookup x = some .local) (hy : X.env.scope.names.lookup y = some .local)
    (h : WV X F0 H0 ρ a fun s1 => WV X F0 H0 ρ b fun s2 => ∃ ρ1 ρ2, Pt ρ i s1 ρ1 ∧ Pt ρ1 j s2 ρ2 ∧ nx ρ2)
    (hw : swappedStores [.Tuple [.Name x px, .Name y py] kt pt] (.Tuple [a, b] k2 pt2) X.env = pure (some [x, y]))
    (hs : swapsWithSole [.Tuple [.Name x px, .Name y py] kt pt] (.Tuple [a, b] k2 pt2) pos.line X.env = pure false := by rfl)
    (hsa : starEach (a :: [b]) X.env = (false, eval a X.env) :: starEach [b] X.env := by rfl) (hsb : starEach (b :: []) X.env = (false, eval b X.env) :: starEach [] X.env := by rfl) :
    WS X F0 H0 ρ (.Assign [.Tuple [.Name x px, .Name y py] kt pt] (.Tuple [a, b] k2 pt2) pos) nx rt := fun σ F H E0 E k1 k2 => by
  refine run_ps (ps_par C.calm (by rw [C.hN]; exact C.nd) (by rw [C.hN]; exact li.n) (by rw [C.hN]; exact lj.n) hij hx hy (pa_cons pe_run (pa_cons pe_run pa_nil hsb) hsa) hw hs) ?_
  refine h σ F H _ E fun s1 v1 F1 H1 h1 st1 r1 => ?_
  refine h1 σ F1 H1 _ (E.stp st1) fun s2 v2 F2 H2 h2 st2 r2 => ?_
  obtain ⟨ρ1, ρ2, p1, p2, h2⟩ := h2
  have e := p1.eq
  subst e
  have e := p2.eq
  subst e
  refine ⟨v1, v2, rfl, k1 _ _ F2 H2 h2 ?_ (st1.ff.trans st2.ff)⟩
  have Ea : Fm X.prog X.w X.K F0 H0 (ρ.set i s1) (σ.set i (some v1)) F2 H2 := ((E.stp st1).stp st2).setV (r1.stp st2) E.h0 fun i x e q _ => E.live i x e q
  refine Ea.setV r2 (E.h0.trans st1.hh) fun l z e q ne => ?_
  rcases getSet e with ⟨rfl, e2, hl⟩ | ⟨hne, e2⟩
  · subst e2
    obtain ⟨p, rfl, o, _, _⟩ := r1.own q
    obtain ⟨u, hu⟩ := o.some
    exact ⟨p, u, List.getElem?_set_self (by rw [← E.len]; exact hl), hu⟩
  · obtain ⟨p, o, e3, e4⟩ := E.live l z e2 q
    exact ⟨p, o, by rw [List.getElem?_set_ne (Ne.symm hne)]; exact e3, st1.hh _ _ e4⟩
theorem ws_par3 {x y z : Str} {i j l : Nat} {si sj sl : Sl} {px py pz pt : Pos} {kt k2 : Nat} {pt2 : Pos} (C : Cxt X N L A G k) (li : Lk N ρ x i si) (lj : Lk N ρ y j sj) (ll : Lk N ρ z l sl) (hij : i ≠ j) (hil : i ≠ l) (hjl : j ≠ l)
    (hx : X.env.scope.names.lookup x = some .local) (hy : X.env.scope.names.lookup y = some .local) (hz : X.env.scope.names.lookup z = some .local)
    (h : WD X F0 H0 ρ a fun d1 => WD X F0 H0 ρ b fun d2 => WD X F0 H0 ρ c fun d3 => ∃ ρ1 ρ2 ρ3, Pt ρ i (.d d1) ρ1 ∧ Pt ρ1 j (.d d2) ρ2 ∧ Pt ρ2 l (.d d3) ρ3 ∧ nx ρ3)
    (hw : swappedStores [.Tuple [.Name x px, .Name y py, .Name z pz] kt pt] (.Tuple [a, b, c] k2 pt2) X.env = pure (some [x, y, z]))
    (hs : swapsWithSole [.Tuple [.Name x px, .Name y py, .Name z pz] kt pt] (.Tuple [a, b, c] k2 pt2) pos.line X.env = pure false := by rfl)
    (hsa : starEach (a :: [b, c]) X.env = (false, eval a X.env) :: starEach [b, c] X.env := by rfl) (hsb : starEach (b :: [c]) X.env = (false, eval b X.env) :: starEach [c] X.env := by rfl) (hsc : starEach (c :: []) X.env = (false, eval c X.env) :: starEach [] X.env := by rfl) :
    WS X F0 H0 ρ (.Assign [.Tuple [.Name x px, .Name y py, .Name z pz] kt pt] (.Tuple [a, b, c] k2 pt2) pos) nx rt := fun σ F H E0 E k1 k2 => by
  refine run_ps (ps_par3 C.calm (by rw [C.hN]; exact C.nd) (by rw [C.hN]; exact li.n) (by rw [C.hN]; exact lj.n) (by rw [C.hN]; exact ll.n) hij hil hjl hx hy hz (pa_cons pe_run (pa_cons pe_run (pa_cons pe_run pa_nil hsc) hsb) hsa) hw hs) ?_
  refine h σ F H _ E fun d1 v1 F1 H1 h1 st1 r1 => ?_
  refine h1 σ F1 H1 _ (E.stp st1) fun d2 v2 F2 H2 h2 st2 r2 => ?_
  refine h2 σ F2 H2 _ ((E.stp st1).stp st2) fun d3 v3 F3 H3 h3 st3 r3 => ?_
  obtain ⟨ρ1, ρ2, ρ3, p1, p2, p3, h3⟩ := h3
  have e := p1.eq
  subst e
  have e := p2.eq
  subst e
  have e := p3.eq
  subst e
  refine ⟨v1, v2, v3, rfl, k1 _ _ F3 H3 h3 ?_ (st1.ff.trans (st2.ff.trans st3.ff))⟩
  exact (((((E.stp st1).stp st2).stp st3).setD (r1.mono (st2.ff.trans st3.ff))).setD (r2.mono st3.ff)).setD r3

/-! ### loops -/
theorem ws_for {ns : List Nat} {tg iter : Expr} (C : Cxt X N L A G k) (h : WI X F0 H0 ρ tg iter fun ds => ∃ I : Nat → Rho → Prop, I 0 ρ ∧ (∀ ρ', I ds.length ρ' → nx ρ') ∧ ∀ i d ρ1, ds[i]? = some d → I i ρ1 → WG X F0 H0 ρ1 tg ns d fun ρ2 => WB X F0 H0 ρ2 sts (I (i + 1)) rt)
    (hs : ∀ x, foldedSetIterable iter X.env x = pure x := by intro _; rfl) : WS X F0 H0 ρ (.For tg iter sts [] pos) nx rt := fun σ F H E0 E k1 k2 => by
  refine run_ps (ps_for C.pass C.calm pi_run pg_run pss_run hs) ?_
  refine h σ F H _ E fun J ds F1 H1 p1 s1 wk => ?_
  obtain ⟨I, i0, iend, istep⟩ := p1
  refine ⟨fun i m σ2 H2 => ∃ ρ2 F2, i + m = ds.length ∧ I i ρ2 ∧ FmX X F0 H0 ρ2 σ2 F2 H2 ∧ Same F1 F2, ⟨ds.length, ρ, F1, Nat.zero_add _, i0, E.stp s1, Same.refl _⟩, ?_⟩
  rintro i m σ2 H2 ⟨ρ2, F2, e, hi, E2, sm⟩
  rcases m with _ | m
  · refine .inl ⟨?_, k1 ρ2 σ2 F2 H2 (iend ρ2 (by rw [show ds.length = i by omega]; exact hi)) E2 (s1.ff.trans sm)⟩
    rw [show i = ds.length by omega]
    exact wk.stops H2 (sm.trans E2.sub)
  · have hlt : i < ds.length := by omega
    refine .inr ⟨wk.goes i H2 hlt (sm.trans E2.sub), fun σ3 H3 => ∃ ρ3 F3, I (i + 1) ρ3 ∧ FmX X F0 H0 ρ3 σ3 F3 H3 ∧ Same F1 F3, ?_, ?_⟩
    · rintro σ3 H3 ⟨ρ3, F3, hi3, E3, sm3⟩
      exact ⟨m, Nat.lt_succ_self _, ρ3, F3, by omega, hi3, E3, sm3⟩
    · intro x H3 y
      obtain ⟨d, F3, ed, s3, rx⟩ := wk.yields i H2 x H3 F2 hlt sm E2.sub y
      refine istep i d ρ2 ed hi σ2 F3 H3 x _ (E2.stp s3) rx fun ρ4 σ4 pr E4 _ => ?_
      exact pr σ4 F3 H3 _ E4 (fun ρ5 σ5 F5 H5 p5 E5 s5 => ⟨ρ5, F5, p5, E5, sm.trans (s3.ff.trans s5)⟩) k2
theorem ws_while (C : Cxt X N L A G k) (I : Nat → Rho → Prop) (m : Nat) (i0 : I m ρ) (h : ∀ m ρ1, I m ρ1 → WT X F0 H0 ρ1 c fun t => if t = true then WB X F0 H0 ρ1 sts (fun ρ2 => ∃ m', m' < m ∧ I m' ρ2) rt else nx ρ1) :
    WS X F0 H0 ρ (.While c sts [] pos) nx rt := fun σ F H E0 E k1 k2 => by
  refine run_ps (ps_while C.pass pt_run pss_run) ?_
  refine ⟨fun m σ2 H2 => ∃ ρ2 F2, I m ρ2 ∧ FmX X F0 H0 ρ2 σ2 F2 H2 ∧ Same F F2, ⟨m, ρ, F, i0, E, Same.refl _⟩, ?_⟩
  rintro m σ2 H2 ⟨ρ2, F2, hi, E2, sm⟩
  refine h m ρ2 hi σ2 F2 H2 _ E2 fun t F3 H3 p s3 => ?_
  cases t with
  | true =>
    rw [if_pos rfl] at p ⊢
    refine ⟨fun σ4 H4 => ∃ m', m' < m ∧ ∃ ρ4 F4, I m' ρ4 ∧ FmX X F0 H0 ρ4 σ4 F4 H4 ∧ Same F F4, fun σ' H' q => q, ?_⟩
    refine p σ2 F3 H3 _ (E2.stp s3) (fun ρ5 σ5 F5 H5 p5 E5 s5 => ?_) k2
    obtain ⟨m', hm, p5⟩ := p5
    exact ⟨m', hm, ρ5, F5, p5, E5, sm.trans (s3.ff.trans s5)⟩
  | false =>
    rw [if_neg Bool.false_ne_true] at p ⊢
    exact k1 ρ2 σ2 F3 H3 p (E2.stp s3) (sm.trans s3.ff)
end
end W3
end
section
set_option Elab.async false
set_option linter.all false
set_option maxRecDepth 100000
set_option maxHeartbeats 2000000
/-! LI: own lists: freezing, looking at them, writing them. -/
namespace W3
open PySem PySem.Spec PyProof.Rows L2

section
variable {X : Cx} {F0 H0 : Hp} {ρ ρ' : Rho} {N L A G : List Str} {k : Nat} {nx : Rho → Prop} {rt : D → Prop} {P : D → Prop} {a b c e e2 : Expr} {es : List Expr} {st : Stmt} {sts : List Stmt} {pos apos cpos p1 : Pos}
theorem upd_lst {H : Hp} {p : Addr} {vs : List V} (h : H p = some (.lst vs)) : upd H p (.lst vs) = H := upd_eta h
/-- an own list is frozen for good -/
theorem Fm.frzL {P : Program} {w : World} {K : PySem.W.Frag} {F H : Hp} {σ : L2.St} (E : Fm P w K F0 H0 ρ σ F H) {n : Nat} {ds : List D} (hn : ρ[n]? = some (.own ds)) : ∃ p vs, σ[n]? = some (some (V.ref p)) ∧ F p = none ∧ H0 p = none ∧ H p = some (.lst vs) ∧ Fm P w K F0 H0 (ρ.set n (.d (.lst ds))) σ (upd F p (.lst vs)) H := by
  obtain ⟨p, h1, ⟨vs, h2, r⟩, h3, h4⟩ := E.own n _ hn rfl
  have sm : Same F (upd F p (.lst vs)) := fun b u e => by rw [upd_ne (ne_of_none e h3)]; exact e
  have q := E.freeze (o := .lst vs) h1 hn rfl h3 h4 (.lst upd_same (r.mono sm))
  rw [upd_eta h2] at q
  exact ⟨p, vs, h1, h3, h4, h2, q⟩
theorem wb_frzL {n : Nat} {ds : List D} (l : Pt ρ n (.own ds) ρ) (p : Pt ρ n (.d (.lst ds)) ρ') (h : WB X F0 H0 ρ' sts nx rt) : WB X F0 H0 ρ sts nx rt := fun σ F H E0 E k1 k2 => by
  have e := p.eq
  subst e
  obtain ⟨p, vs, h1, h2, h3, h4, E'⟩ := E.frzL l.get
  have sm : Same F (upd F p (.lst vs)) := fun b u e => by rw [upd_ne (ne_of_none e h2)]; exact e
  exact h σ _ H E0 E' (fun ρ2 σ2 F2 H2 p2 E2 s2 => k1 ρ2 σ2 F2 H2 p2 E2 (sm.trans s2)) k2
/-! looking at own things: the answer is flat -/
theorem Fm.thaw_back {F F' H H' : Hp} {p : Addr} {o : HO} (sub : Same F H) (hF : F p = none) (hp : H p = some o) (s : Stp (upd F p o) H F' H') : Stp F H F H' :=
  ⟨Same.refl F, s.hh, fun b u e => s.hh _ _ (sub b u e), fun b u _ n => n⟩
/-- what may be left when the thing at p is own again -/
inductive Plain : D → Prop
  | non : Plain .non
  | bl {b : Bool} : Plain (.bl b)
  | int {i : Int} : Plain (.int i)
  | str {x : Str} : Plain (.str x)
theorem Plain.rep {P : Program} {w : World} {K : PySem.W.Frag} {F F' : Hp} {d : D} {v : V} (h : Plain d) (r : Rep P w K F d v) : Rep P w K F' d v := by
  cases h <;> cases r
  · exact .non
  · exact .bl _
  · exact .int _
  · exact .str _
theorem wt_thawL {n : Nat} {ds : List D} {PB : Bool → Prop} (l : Pt ρ n (.own ds) ρ) (p : Pt ρ n (.d (.lst ds)) ρ') (h : WT X F0 H0 ρ' e PB) : WT X F0 H0 ρ e PB := fun σ F H Q E kk => by
  have e := p.eq
  subst e
  obtain ⟨p, vs, h1, h2, h3, h4, E'⟩ := E.frzL l.get
  exact h σ _ H Q E' fun b F' H' pb s => kk b F H' pb (Fm.thaw_back E.sub h2 h4 s)
theorem wd_thawL {n : Nat} {ds : List D} (l : Pt ρ n (.own ds) ρ) (p : Pt ρ n (.d (.lst ds)) ρ') (h : WD X F0 H0 ρ' e fun d => Plain d ∧ P d) : WD X F0 H0 ρ e P := fun σ F H Q E kk => by
  have e := p.eq
  subst e
  obtain ⟨p, vs, h1, h2, h3, h4, E'⟩ := E.frzL l.get
  exact h σ _ H Q E' fun d v F' H' pb s r => kk d v F H' pb.2 (Fm.thaw_back E.sub h2 h4 s) (pb.1.rep r)
theorem flats_rep {P : Program} {w : World} {K : PySem.W.Frag} {F F' : Hp} : ∀ {ds : List D} {vs : List V}, (∀ d ∈ ds, Plain d) → Reps P w K F ds vs → Reps P w K F' ds vs
  | [], _, _, .nil => .nil
  | d :: ds, _, h, .cons r t => .cons ((h d List.mem_cons_self).rep r) (flats_rep (fun d hd => h d (List.mem_cons_of_mem _ hd)) t)
/-- .. a new list of plain things -/
theorem wf_thawL {n : Nat} {ds : List D} {PF : List D → Prop} (l : Pt ρ n (.own ds) ρ) (p : Pt ρ n (.d (.lst ds)) ρ') (h : WF X F0 H0 ρ' e fun es => (∀ d ∈ es, Plain d) ∧ PF es) : WF X F0 H0 ρ e PF := fun σ F H Q E kk => by
  have e := p.eq
  subst e
  obtain ⟨p, vs, h1, h2, h3, h4, E'⟩ := E.frzL l.get
  exact h σ _ H Q E' fun es q ws F' H' pb s hq hf hh r => kk es q ws F H' pb.2 (Fm.thaw_back E.sub h2 h4 s) hq (by cases e0 : F q with | none => rfl | some u => exact absurd (E.sub q u e0) (by rw [hq]; simp)) hh (flats_rep pb.1 r)
/-- .. a new tuple of plain things, of plain tuples -/
inductive Tupl : D → Prop
  | plain {d : D} (h : Plain d) : Tupl d
  | tup {ds : List D} (h : ∀ d ∈ ds, Tupl d) : Tupl (.tup ds)
def cutH (F : Hp) (p : Addr) : Hp := fun b => if b = p then none else F b
theorem cutH_ne {F : Hp} {p b : Addr} (h : b ≠ p) : cutH F p b = F b := if_neg h
theorem cutH_eq {F : Hp} {p : Addr} : cutH F p p = none := if_pos rfl
/-- what is no tuple -/
def NoT (o : HO) : Prop := (∀ xs, o ≠ .tup xs) ∧ ∀ od xs, o ≠ .frz od (.tup xs)
theorem SqT.out {K : PySem.W.Frag} {F : Hp} {p a : Addr} {o : HO} {vs : List V} (hp : F p = some o) (ho : NoT o) (h : SqT K F a vs) : SqT K (cutH F p) a vs := by
  rcases h with (h | ⟨od, h⟩) | h
  · refine .inl (.inl ?_)
    rw [cutH_ne (fun z => by rw [z, hp] at h; exact ho.1 vs (Option.some.inj h))]; exact h
  · refine .inl (.inr ⟨od, ?_⟩)
    rw [cutH_ne (fun z => by rw [z, hp] at h; exact ho.2 od vs (Option.some.inj h))]; exact h
  · exact .inr h
theorem Tupl.tups {ds : List D} (h : Tupl (.tup ds)) : ∀ d ∈ ds, Tupl d := by
  cases h with
  | plain h => cases h
  | tup h => exact h
mutual
theorem Tupl.rep {P : Program} {w : World} {K : PySem.W.Frag} {F : Hp} {p : Addr} {o : HO} (hp : F p = some o) (ho : NoT o) : ∀ {d : D} {v : V}, Rep P w K F d v → Tupl d → Rep P w K (cutH F p) d v
  | _, _, .non, _ => .non
  | _, _, .bl b, _ => .bl b
  | _, _, .int b, _ => .int b
  | _, _, .str b, _ => .str b
  | _, _, .tup hq r, h => .tup (SqT.out hp ho hq) (Tupl.reps hp ho r h.tups)
  | _, _, .ptup _ _ _, h => by cases h with | plain h => cases h
  | _, _, .lst _ _, h => by cases h with | plain h => cases h
  | _, _, .dk _ _, h => by cases h with | plain h => cases h
  | _, _, .dn _ _ _, h => by cases h with | plain h => cases h
  | _, _, .dj _ _, h => by cases h with | plain h => cases h
  | _, _, .dm _ _ _, h => by cases h with | plain h => cases h
  | _, _, .ob _ _, h => by cases h with | plain h => cases h
  | _, _, .dr _, h => by cases h with | plain h => cases h
  | _, _, .scr _ _, h => by cases h with | plain h => cases h
theorem Tupl.reps {P : Program} {w : World} {K : PySem.W.Frag} {F : Hp} {p : Addr} {o : HO} (hp : F p = some o) (ho : NoT o) : ∀ {ds : List D} {vs : List V}, Reps P w K F ds vs → (∀ d ∈ ds, Tupl d) → Reps P w K (cutH F p) ds vs
  | _, _, .nil, _ => .nil
  | _, _, .cons r t, h => .cons (Tupl.rep hp ho r (h _ List.mem_cons_self)) (Tupl.reps hp ho t (fun d hd => h d (List.mem_cons_of_mem _ hd)))
end
theorem Fm.thaw_out {F F' H H' : Hp} {p : Addr} {o : HO} (hF : F p = none) (s : Stp (upd F p o) H F' H') : Stp F H (cutH F' p) H' := by
  have hFp : F' p = some o := s.ff p o upd_same
  refine ⟨fun b u e => ?_, s.hh, fun b u e => ?_, fun b u e n => ?_⟩
  · have ne : b ≠ p := ne_of_none e hF
    rw [cutH_ne ne]
    exact s.ff b u (by rw [upd_ne ne]; exact e)
  · by_cases z : b = p
    · subst z; rw [cutH_eq] at e; cases e
    · rw [cutH_ne z] at e; exact s.sub b u e
  · by_cases z : b = p
    · subst z; exact cutH_eq
    · rw [cutH_ne z]; exact s.out b u e (by rw [upd_ne z]; exact n)
theorem noT_lst {vs : List V} : NoT (.lst vs) := ⟨(fun _ z => nomatch z), (fun _ _ z => nomatch z)⟩
theorem wd_thawLT {n : Nat} {ds : List D} (l : Pt ρ n (.own ds) ρ) (p : Pt ρ n (.d (.lst ds)) ρ') (h : WD X F0 H0 ρ' e fun d => Tupl d ∧ P d) : WD X F0 H0 ρ e P := fun σ F H Q E kk => by
  have e := p.eq
  subst e
  obtain ⟨p, vs, h1, h2, h3, h4, E'⟩ := E.frzL l.get
  exact h σ _ H Q E' fun d v F' H' pb s r => kk d v _ H' pb.2 (Fm.thaw_out h2 s) (Tupl.rep (s.ff p _ upd_same) noT_lst r pb.1)

/-! ### writing -/
theorem wd_ref {x : Str} {n : Nat} {s : Sl} (C : Cxt X N L A G k) (l : Lk N ρ x n s) (m : x ∈ L) (q : s.isOwn = true) : PE X (.Name x pos) (tVar n) := by
  obtain ⟨vis, h1, h2⟩ := C.loc x m
  exact pe_var (i := n) (by rw [C.hN]; exact l.n) vis h1 h2
/-- x.append(e) -/
theorem ws_append {x : Str} {n : Nat} {ds : List D} (C : Cxt X N L A G k) (l : Lk N ρ x n (.own ds)) (m : x ∈ L) (h : WD X F0 H0 ρ e fun d => ds.length < sizeLine ∧ ∃ ρ', Pt ρ n (.own (ds ++ [d])) ρ' ∧ nx ρ')
    (hsw : swapsWith (.Call (.Attribute (.Name x p1) "append" apos) [e] [] cpos) none pos.line X.env = pure false := by rfl) (hbase : attributeBase (.Name x p1) "append" X.env (eval (.Name x p1) X.env) = eval (.Name x p1) X.env := by rfl)
    (hfew : ((backTo cpos (starEach [e] X.env)).all (fun x => !x.1) && (backToKw cpos (keywordEach [] X.env)).all (fun x => x.1.isSome)
      && decide ([e].length + ([] : List Keyword).length + (if ([] : List Keyword).isEmpty then 0 else 1) < 30)) = true := by rfl)
    (hline : (apos.endLine == cpos.line) = true := by rfl) (hs : starEach [e] X.env = (false, eval e X.env) :: starEach [] X.env := by rfl) (hplain : (backTo cpos (starEach [] X.env)).any (·.1) = false := by rfl) :
    WS X F0 H0 ρ (.Expr (.Call (.Attribute (.Name x p1) "append" apos) [e] [] cpos) pos) nx rt := fun σ F H E0 E k1 k2 => by
  refine run_ps (ps_expr (pe_bm PySem.F.plainAttrs_list PySem.F.slot_list_append PySem.F.type_list_append mt_append (wd_ref C l m rfl) (pa_cons pe_run pa_nil hs) hbase hfew hline hs hplain) hsw) ?_
  obtain ⟨p, h1, ⟨vs, h2, r⟩, h3, h4⟩ := E.own n _ l.r rfl
  refine ⟨.ref p, h1, .inl ⟨rfl, _, SqL.of h2⟩, ?_⟩
  refine h σ F H _ E fun d v F1 H1 pp st rd => ?_
  obtain ⟨hz, ρ2, pt, q⟩ := pp
  have e := pt.eq
  subst e
  have hH1 : H1 p = some (.lst vs) := st.hh _ _ h2
  refine ⟨p, vs, v, rfl, rfl, hH1, by rw [← r.length]; exact hz, k1 _ _ F1 _ q ?_ st.ff⟩
  exact (E.stp st).mut h1 l.r rfl (st.out _ _ h2 h3) h4 rfl ⟨_, upd_same, (r.mono st.ff).append (.cons rd .nil)⟩
/-- x.insert(e, e2) -/
theorem ws_insert {x : Str} {n : Nat} {ds : List D} (C : Cxt X N L A G k) (l : Lk N ρ x n (.own ds)) (m : x ∈ L) (h : WD X F0 H0 ρ e fun d1 => WD X F0 H0 ρ e2 fun d => ∃ i : Nat, d1 = .int i ∧ i < 1000000 ∧ ds.length < sizeLine ∧ ∃ ρ', Pt ρ n (.own (ds.take i ++ [d] ++ ds.drop i)) ρ' ∧ nx ρ')
    (hsw : swapsWith (.Call (.Attribute (.Name x p1) "insert" apos) [e, e2] [] cpos) none pos.line X.env = pure false := by rfl) (hbase : attributeBase (.Name x p1) "insert" X.env (eval (.Name x p1) X.env) = eval (.Name x p1) X.env := by rfl)
    (hfew : ((backTo cpos (starEach [e, e2] X.env)).all (fun x => !x.1) && (backToKw cpos (keywordEach [] X.env)).all (fun x => x.1.isSome)
      && decide ([e, e2].length + ([] : List Keyword).length + (if ([] : List Keyword).isEmpty then 0 else 1) < 30)) = true := by rfl)
    (hline : (apos.endLine == cpos.line) = true := by rfl) (hs : starEach [e, e2] X.env = (false, eval e X.env) :: starEach [e2] X.env := by rfl) (hs2 : starEach [e2] X.env = (false, eval e2 X.env) :: starEach [] X.env := by rfl) (hplain : (backTo cpos (starEach [e2] X.env)).any (·.1) = false := by rfl) :
    WS X F0 H0 ρ (.Expr (.Call (.Attribute (.Name x p1) "insert" apos) [e, e2] [] cpos) pos) nx rt := fun σ F H E0 E k1 k2 => by
  refine run_ps (ps_expr (pe_bm PySem.F.plainAttrs_list PySem.F.slot_list_insert PySem.F.type_list_insert mt_insert (wd_ref C l m rfl) (pa_cons pe_run (pa_cons pe_run pa_nil hs2) hs) hbase hfew hline hs hplain) hsw) ?_
  obtain ⟨p, h1, ⟨vs, h2, r⟩, h3, h4⟩ := E.own n _ l.r rfl
  refine ⟨.ref p, h1, .inl ⟨rfl, _, SqL.of h2⟩, ?_⟩
  refine h σ F H _ E fun d1 v1 F1 H1 pp1 st1 rd1 => ?_
  refine pp1 σ F1 H1 _ (E.stp st1) fun d v F2 H2 pp st2 rd => ?_
  obtain ⟨i, rfl, hi, hz, ρ2, pt, q⟩ := pp
  have e := pt.eq
  subst e
  cases rd1
  have st := st1.trans st2
  have hH1 : H2 p = some (.lst vs) := st.hh _ _ h2
  refine ⟨p, vs, i, v, rfl, rfl, hH1, by rw [← r.length]; exact hz, by omega, by omega, k1 _ _ F2 _ q ?_ st.ff⟩
  refine (E.stp st).mut h1 l.r rfl (st.out _ _ h2 h3) h4 rfl ⟨_, upd_same, ?_⟩
  rw [Int.toNat_natCast]
  exact (((r.mono st.ff).take i).append (.cons rd .nil)).append ((r.mono st.ff).drop i)
/-- tg = x.pop(e) -/
theorem ws_pop {x : Str} {n : Nat} {ds : List D} {tg : Expr} {ns : List Nat} (C : Cxt X N L A G k) (l : Lk N ρ x n (.own ds)) (m : x ∈ L) (h : WD X F0 H0 ρ e fun d1 => ∃ (i : Nat) (d : D), d1 = .int i ∧ ds[i]? = some d ∧ i < 1000000 ∧ ∃ ρ', Pt ρ n (.own (ds.eraseIdx i)) ρ' ∧ WG X F0 H0 ρ' tg ns d nx)
    (hbase : attributeBase (.Name x p1) "pop" X.env (eval (.Name x p1) X.env) = eval (.Name x p1) X.env := by rfl)
    (hfew : ((backTo cpos (starEach [e] X.env)).all (fun x => !x.1) && (backToKw cpos (keywordEach [] X.env)).all (fun x => x.1.isSome)
      && decide ([e].length + ([] : List Keyword).length + (if ([] : List Keyword).isEmpty then 0 else 1) < 30)) = true := by rfl)
    (hline : (apos.endLine == cpos.line) = true := by rfl) (hs : starEach [e] X.env = (false, eval e X.env) :: starEach [] X.env := by rfl) (hplain : (backTo cpos (starEach [] X.env)).any (·.1) = false := by rfl)
    (hsw : swapsWithSole [tg] (.Call (.Attribute (.Name x p1) "pop" apos) [e] [] cpos) pos.line X.env = pure false := by rfl) (hw : swappedStores [tg] (.Call (.Attribute (.Name x p1) "pop" apos) [e] [] cpos) X.env = pure none := by rfl)
    (ha : (assignEach [tg] X.env).map (·.2) = [assign tg X.env] := by rfl) :
    WS X F0 H0 ρ (.Assign [tg] (.Call (.Attribute (.Name x p1) "pop" apos) [e] [] cpos) pos) nx rt := fun σ F H E0 E k1 k2 => by
  refine run_ps (ps_asg (pe_bm PySem.F.plainAttrs_list PySem.F.slot_list_pop PySem.F.type_list_pop mt_popAt (wd_ref C l m rfl) (pa_cons pe_run pa_nil hs) hbase hfew hline hs hplain) pg_run hsw hw ha) ?_
  obtain ⟨p, h1, ⟨vs, h2, r⟩, h3, h4⟩ := E.own n _ l.r rfl
  refine ⟨.ref p, h1, .inl ⟨rfl, _, SqL.of h2⟩, ?_⟩
  refine h σ F H _ E fun d1 v1 F1 H1 pp st rd1 => ?_
  obtain ⟨i, d, rfl, hd, hi, ρ2, pt, q⟩ := pp
  have e := pt.eq
  subst e
  cases rd1
  have hH1 : H1 p = some (.lst vs) := st.hh _ _ h2
  obtain ⟨y, hy, ry⟩ := (r.mono st.ff).get hd
  have hlt : i < vs.length := (List.getElem?_eq_some_iff.mp hy).1
  refine ⟨p, vs, i, i, y, rfl, rfl, hH1, by omega, by omega, ?_, hy, ?_⟩
  · rw [seqIndex_of (by omega) (by omega)]; simp
  · have E2 : FmX X F0 H0 (ρ.set n (.own (ds.eraseIdx i))) σ F1 (upd H1 p (.lst (vs.eraseIdx i))) := (E.stp st).mut h1 l.r rfl (st.out _ _ h2 h3) h4 rfl ⟨_, upd_same, (r.mono st.ff).eraseIdx i⟩
    exact q σ F1 _ y _ E2 ry fun ρ3 σ3 p3 E3 _ => k1 ρ3 σ3 F1 _ p3 E3 st.ff
/-- x[e] = e2 -/
theorem ws_putL {x : Str} {n : Nat} {ds : List D} {kp : Pos} (C : Cxt X N L A G k) (l : Lk N ρ x n (.own ds)) (m : x ∈ L) (h : WD X F0 H0 ρ e2 fun d => WD X F0 H0 ρ e fun d1 => ∃ (i : Nat), d1 = .int i ∧ i < ds.length ∧ ∃ ρ', Pt ρ n (.own (ds.set i d)) ρ' ∧ nx ρ')
    (ha : ∀ v, assign (.Subscript (.Name x p1) e kp) X.env v = (do
      let ov ← holding [v] (eval (.Name x p1) X.env)
      let iv ← holding [v, ov] (eval e X.env)
      standAt kp
      holding [v, ov, iv] (setItem ov iv v)
      release [v, ov, iv] []) := by intro _; rfl)
    (hsw : swapsWithSole [.Subscript (.Name x p1) e kp] e2 pos.line X.env = pure false := by rfl) (hw : swappedStores [.Subscript (.Name x p1) e kp] e2 X.env = pure none := by rfl)
    (h1 : (assignEach [.Subscript (.Name x p1) e kp] X.env).map (·.2) = [assign (.Subscript (.Name x p1) e kp) X.env] := by rfl) :
    WS X F0 H0 ρ (.Assign [.Subscript (.Name x p1) e kp] e2 pos) nx rt := fun σ F H E0 E k1 k2 => by
  refine run_ps (ps_asg pe_run (pg_sub (wd_ref C l m rfl) pe_run set_list ha) hsw hw h1) ?_
  obtain ⟨p, h1, ⟨vs, h2, r⟩, h3, h4⟩ := E.own n _ l.r rfl
  refine h σ F H _ E fun d v F1 H1 pp st1 rd => ⟨.ref p, h1, ?_⟩
  refine pp σ F1 H1 _ (E.stp st1) fun d1 v1 F2 H2 pp2 st2 rd1 => ?_
  obtain ⟨i, rfl, hi, ρ2, pt, q⟩ := pp2
  have e := pt.eq
  subst e
  cases rd1
  have st := st1.trans st2
  have hH2 : H2 p = some (.lst vs) := st.hh _ _ h2
  have hlt : i < vs.length := by rw [← r.length]; exact hi
  refine ⟨p, vs, i, i, rfl, rfl, hH2, ?_, k1 _ _ F2 _ q ?_ st.ff⟩
  · unfold ixN
    simp [hlt]
  · exact (E.stp st).mut h1 l.r rfl (st.out _ _ h2 h3) h4 rfl ⟨_, upd_same, Reps.set (rd.mono st2.ff) i (r.mono st.ff)⟩
end
end W3
end
section
set_option Elab.async false
set_option linter.all false
set_option maxRecDepth 100000
set_option maxHeartbeats 2000000
/-! LJ: dicts by nested tuples. -/
namespace W3
open PySem PySem.Spec PyProof.Rows L2

def nkGet (xs : List (NestedKey × D)) (k : NestedKey) : Option D := (xs.find? fun p => decide (p.1 = k)).map (·.2)
section
variable {X : Cx} {pins : List (Addr × Obj)} {σ : L2.St} {F H : Hp} {s : Shared}
mutual
theorem key_is (I : Inv X pins σ H s) (sm : Same F H) : ∀ (k : NestedKey) (v : V) (u : Value), Rep X.prog X.w X.K F (ofK k) v → RelV v u → NestedIs s.heap k u
  | .none, v, u, h, r => by
    unfold ofK at h
    cases h
    have e : u = .none := r
    subst e; exact .none
  | .num i, v, u, h, r => by
    unfold ofK at h
    cases h
    obtain ⟨t, e⟩ := r
    subst e; exact .int _ _
  | .text i, v, u, h, r => by
    unfold ofK at h
    cases h
    obtain ⟨t, e⟩ := r
    subst e; exact .text _ _
  | .tup ks, v, u, h, r => by
    unfold ofK at h
    cases h with
    | tup hq rr =>
      cases r
      obtain ⟨its, rv, ⟨o, ho, hc, n, hd⟩, hz⟩ := I.tuple (Same.tupS sm hq)
      exact .tup ho hc hd (keys_is I sm ks _ _ rr rv)
theorem keys_is (I : Inv X pins σ H s) (sm : Same F H) : ∀ (ks : List NestedKey) (vs : List V) (us : List Value), Reps X.prog X.w X.K F (ofKs ks) vs → Vals vs us → NestedAll s.heap ks us
  | [], vs, us, h, r => by
    unfold ofKs at h
    cases h
    cases r
    exact .nil
  | k :: ks, vs, us, h, r => by
    unfold ofKs at h
    cases h with
    | cons h t =>
      cases r with
      | cons r rr => exact .cons (key_is I sm k _ _ h r) (keys_is I sm ks _ _ t rr)
end
theorem RepN.all {P : Program} {w : World} {K : PySem.W.Frag} : ∀ {xs : List (NestedKey × D)} {raw : Raw} {ys : List (NestedKey × Addr × Value)}, RepN P w K F xs raw → ndRel raw ys → ∀ y ∈ ys, Rep P w K F (ofK y.1) (.ref y.2.1) ∧ y.1.depth ≤ 8
  | _, _, _, .nil, .nil, y, hy => nomatch hy
  | _, _, _, .cons hk hd h t, .cons r rr, y, hy => by
    obtain ⟨e1, e2, _⟩ := r
    rcases List.mem_cons.mp hy with rfl | hy
    · exact ⟨by rw [← e1, ← e2]; exact hk, by rw [← e1]; exact hd⟩
    · exact RepN.all t rr y hy
theorem nd_get {P : Program} {w : World} {K : PySem.W.Frag} (k : NestedKey) : ∀ {xs : List (NestedKey × D)} {raw : Raw} {ys : List (NestedKey × Addr × Value)}, RepN P w K F xs raw → ndRel raw ys →
    (nkGet xs k = none ∧ atKey ys k = none) ∨ ∃ d a v u, nkGet xs k = some d ∧ atKey ys k = some (a, u) ∧ RelV v u ∧ Rep P w K F d v
  | _, _, _, .nil, .nil => .inl ⟨rfl, rfl⟩
  | _, _, _, @RepN.cons _ _ _ _ k0 d0 a0 v0 xs raw hk hd h t, @Paired.cons _ _ _ _ b _ ys r rr => by
    obtain ⟨e1, e2, e3⟩ := r
    obtain ⟨b1, b2, b3⟩ := b
    cases e1; cases e2
    by_cases e : k0 = k
    · refine .inr ⟨d0, a0, v0, b3, ?_, ?_, e3, h⟩
      · unfold nkGet; rw [List.find?_cons, decide_eq_true e]; rfl
      · unfold atKey; rw [List.find?_cons, decide_eq_true e]; rfl
    · have q1 : nkGet ((k0, d0) :: xs) k = nkGet xs k := by unfold nkGet; rw [List.find?_cons, decide_eq_false e]
      have q2 : atKey ((k0, a0, b3) :: ys) k = atKey ys k := by unfold atKey; rw [List.find?_cons, decide_eq_false e]
      rw [q1, q2]
      exact nd_get k t rr
/-- the concrete dict behind nd -/
theorem nd_of {p : Addr} {raw : Raw} {xs : List (NestedKey × D)} (I : Inv X pins σ H s) (sm : Same F H) (h : H p = some (nd X.prog X.w p raw) ∨ ∃ o, H p = some (.frz o (nd X.prog X.w p raw))) (r : RepN X.prog X.w X.K F xs raw) :
    raw.length ≤ sizeLine ∧ ∃ ys, ndRel raw ys ∧ s.heap.DictOfH (nestedKind X.prog X.w) p ys := by
  have q : ndAt X.prog X.w p raw s.heap := by
    rcases h with h | ⟨o, h⟩
    · exact (I.hok p _ h).1
    · exact (I.hok p _ h).2.1
  obtain ⟨z, ys, rel, o, es, ep, h1, h2, h3, h4, h5⟩ := q
  exact ⟨z, ys, rel, o, es, ep, h1, h2, h3, h4, fun y hy => ⟨key_is I sm y.1 _ _ (r.all rel y hy).1 rfl, (r.all rel y hy).2⟩, h5⟩
theorem ndRel.length {raw : Raw} {ys : List (NestedKey × Addr × Value)} (h : ndRel raw ys) : raw.length = ys.length := Paired.length h
end

/-- d is a key that is a tuple -/
structure IsT (d : D) (ks : List NestedKey) : Prop where
  eq : d = .tup (ofKs ks)
  dep : (NestedKey.tup ks).depth ≤ 8
theorem IsT.of {d : D} {ks : List NestedKey} (h : IsT d ks) : d = ofK (.tup ks) := h.eq
section
variable {X : Cx} {F0 H0 : Hp} {ρ ρ' : Rho} {N L A G : List Str} {k : Nat} {nx : Rho → Prop} {rt : D → Prop} {P : D → Prop} {a b c e e2 : Expr} {es : List Expr} {st : Stmt} {sts : List Stmt} {pos apos cpos p1 : Pos}
theorem Cxt.u9 (C : Cxt X N L A G k) : (nestedKind X.prog X.w).room X.A.in1 := by
  show (X.A.in1).units + 8 < cLine
  exact C.u8
/-- a dict of nested keys, to be read -/
inductive IsN : D → List (NestedKey × D) → Prop
  | dn {xs : List (NestedKey × D)} : IsN (.dn xs) xs
  | dm {xs : List (NestedKey × D)} : IsN (.dm xs) xs
theorem isN_rep {Pg : Program} {w : World} {K : PySem.W.Frag} {F H : Hp} {d : D} {xs : List (NestedKey × D)} {v : V} (s : Same F H) (h : IsN d xs) (r : Rep Pg w K F d v) : ∃ p raw, v = .ref p ∧ (H p = some (nd Pg w p raw) ∨ ∃ o, H p = some (.frz o (nd Pg w p raw))) ∧ (p == sysModules) = false ∧ RepN Pg w K F xs raw := by
  cases h with
  | dn => cases r with
    | dn h hs r => exact ⟨_, _, rfl, .inr ⟨_, s _ _ h⟩, hs, r⟩
  | dm => cases r with
    | dm h hs r => exact ⟨_, _, rfl, .inl (s _ _ h), hs, r⟩
def rInN (X : Cx) (neg : Bool) : R2 := fun x y H Q => ∃ (F : Hp) (ks : List NestedKey) (p : Addr) (raw : Raw) (xs : List (NestedKey × D)), Same F H ∧ Rep X.prog X.w X.K F (ofK (.tup ks)) x ∧ (NestedKey.tup ks).depth ≤ 8 ∧ y = .ref p ∧
  (H p = some (nd X.prog X.w p raw) ∨ ∃ o, H p = some (.frz o (nd X.prog X.w p raw))) ∧ (p == sysModules) = false ∧ RepN X.prog X.w X.K F xs raw ∧ Q (.bl (neg != (nkGet xs (.tup ks)).isSome)) H
theorem op_inN (hu : (nestedKind X.prog X.w).room X.A.in1) : OpR X (compareOp .In) (rInN X false) := by
  intro pins s σ H x y u v Q I rx ry h
  obtain ⟨F, ks, p, raw, xs, sm, rk, hd, rfl, hp, hs, r, q⟩ := h
  cases ry
  have hk := key_is I sm _ _ _ rk rx
  obtain ⟨_, ys, rel, dd⟩ := nd_of I sm hp r
  cases rk with
  | @tup ax vs _ hq rr =>
    cases rx
    refine wpAny_in_heap hu (k := NestedKey.tup ks) ⟨hk, hd⟩ hs dd ⟨.bl (atKey ys (.tup ks)).isSome, H, I.tok _, rfl, ?_⟩
    rcases nd_get (.tup ks) r rel with ⟨e1, e2⟩ | ⟨d, a, v, u, e1, e2, _, _⟩
    · rw [e1] at q; rw [e2]; exact q
    · rw [e1] at q; rw [e2]; exact q
theorem op_ninN (hu : (nestedKind X.prog X.w).room X.A.in1) : OpR X (compareOp .NotIn) (rInN X true) := by
  intro pins s σ H x y u v Q I rx ry h
  obtain ⟨F, ks, p, raw, xs, sm, rk, hd, rfl, hp, hs, r, q⟩ := h
  cases ry
  have hk := key_is I sm _ _ _ rk rx
  obtain ⟨_, ys, rel, dd⟩ := nd_of I sm hp r
  cases rk with
  | @tup ax vs _ hq rr =>
    cases rx
    show wpAny _ _ (do return Value.bool (!(← contains (.ref p) (.ref ax)))) _ _ s
    refine wpAny_bind (wpAny_contains_heap hu (k := NestedKey.tup ks) ⟨hk, hd⟩ hs dd (wpAny_pure ⟨.bl (!(atKey ys (.tup ks)).isSome), H, I.tok _, rfl, ?_⟩))
    rcases nd_get (.tup ks) r rel with ⟨e1, e2⟩ | ⟨d, a, v, u, e1, e2, _, _⟩
    · rw [e1] at q; rw [e2]; exact q
    · rw [e1] at q; rw [e2]; exact q
theorem od_inN (C : Cxt X N L A G k) : OpD X (compareOp .In) (fun a b P => ∃ ks xs, IsT a ks ∧ IsN b xs ∧ P (.bl (nkGet xs (.tup ks)).isSome)) :=
  ⟨_, op_inN C.u9, fun F H x y dx dy P Q s rx ry h kk => by
    obtain ⟨ks, xs, hk, hn, p⟩ := h
    have e := hk.of
    subst e
    obtain ⟨p', raw, rfl, h1, h2, h3⟩ := isN_rep s hn ry
    refine ⟨F, ks, p', raw, xs, s, rx, hk.dep, rfl, h1, h2, h3, ?_⟩
    rw [Bool.false_bne]
    exact kk _ _ F H p (Stp.refl s) (.bl _)⟩
theorem od_ninN (C : Cxt X N L A G k) : OpD X (compareOp .NotIn) (fun a b P => ∃ ks xs, IsT a ks ∧ IsN b xs ∧ P (.bl (!(nkGet xs (.tup ks)).isSome))) :=
  ⟨_, op_ninN C.u9, fun F H x y dx dy P Q s rx ry h kk => by
    obtain ⟨ks, xs, hk, hn, p⟩ := h
    have e := hk.of
    subst e
    obtain ⟨p', raw, rfl, h1, h2, h3⟩ := isN_rep s hn ry
    refine ⟨F, ks, p', raw, xs, s, rx, hk.dep, rfl, h1, h2, h3, ?_⟩
    rw [Bool.true_bne]
    exact kk _ _ F H p (Stp.refl s) (.bl _)⟩
/-! d[k] -/
theorem wd_ixN (C : Cxt X N L A G k) (h : WD X F0 H0 ρ a fun da => WD X F0 H0 ρ b fun db => ∃ xs ks d, IsN da xs ∧ IsT db ks ∧ nkGet xs (.tup ks) = some d ∧ P d) (hs : NoSl b := by intro _ _; rfl) : WD X F0 H0 ρ (.Subscript a b pos) P := fun σ F H Q E kk => by
  refine ⟨fun pins s I => ?_⟩
  refine subD_of PySem.F.slot_dict_getitem.lookup hs (thn ((h σ F H (fun x H1 => ∃ F1 da, RepX X F1 da x ∧ Stp F H F1 H1 ∧ WD X F0 H0 ρ b fun db => ∃ xs ks d, IsN da xs ∧ IsT db ks ∧ nkGet xs (.tup ks) = some d ∧ P d) E (fun da x F1 H1 h1 s1 r1 => ⟨F1, da, r1, s1, h1⟩)).go pins s I) fun u s1 ⟨x, H1, I1, rx, F1, da, r1, s1', h1⟩ => ?_)
  refine thn ((h1 σ F1 H1 (fun y H2 => ∃ F2 db, RepX X F2 db y ∧ Stp F1 H1 F2 H2 ∧ ∃ xs ks d, IsN da xs ∧ IsT db ks ∧ nkGet xs (.tup ks) = some d ∧ P d) (E.stp s1') (fun db y F2 H2 h2 s2 r2 => ⟨F2, db, r2, s2, h2⟩)).go pins s1 I1) fun iv s2 ⟨y, H2, I2, ry, F2, db, r2, s2', xs, ks, d, hn, hk, hg, p⟩ => ?_
  have e := hk.of
  subst e
  obtain ⟨pp, raw, rfl, hp, hsm, rn⟩ := isN_rep s2'.sub hn (r1.mono s2'.ff)
  cases rx
  have hk' := key_is I2 s2'.sub _ _ _ r2 ry
  obtain ⟨_, ys, rel, dd⟩ := nd_of I2 s2'.sub hp rn
  refine ⟨dd.typeIs, ?_⟩
  cases r2 with
  | @tup ax vs _ hq rr =>
    cases ry
    rcases nd_get (.tup ks) rn rel with ⟨e1, e2⟩ | ⟨d', a, v, u, e1, e2, rv, rd⟩
    · rw [e1] at hg; cases hg
    · rw [e1] at hg; cases hg
      exact wpAny_getItem_heap C.u9 (k := NestedKey.tup ks) ⟨hk', hk.dep⟩ dd e2 ⟨v, H2, I2.tok _, rv, kk d v F2 H2 p (s1'.trans s2') rd⟩
/-! new ones -/
theorem ndAt_new {P : Program} {w : World} {h : Heap} : ndAt P w h.objs.size [] (h.push { cls := .type "dict", data := .dict #[] }) :=
  ⟨Nat.zero_le _, [], .nil, _, #[], 0, Heap.get?_push_size _ rfl, ⟨rfl, rfl, rfl⟩, rfl, rfl, List.nodup_nil⟩
theorem ndOk {P : Program} {w : World} {H : Hp} {h : Heap} {p : Addr} {raw : Raw} (x : ndAt P w p raw h) : ObjOk P w H h p (nd P w p raw) := by
  refine ⟨x, ?_, fun h1 h2 y k => ?_⟩
  · obtain ⟨_, _, _, o, es, ep, h1, _⟩ := x; exact ⟨o, h1⟩
  · obtain ⟨z, ys, rel, o, es, ep, h1', r⟩ := y
    exact ⟨z, ys, rel, o, es, ep, k o h1', r⟩
/-- {} -/
theorem wv_newN {PV : Sl → Prop} (q : PV (.ownN [])) : WV X F0 H0 ρ (.Dict [] [] pos) PV := fun σ F H Q E kk => by
  refine ⟨fun pins s I => ?_⟩
  have hp : H s.heap.objs.size = none := I.hok.fresh (Nat.le_refl _)
  refine wpAny_Dict_empty ⟨.ref s.heap.objs.size, upd H s.heap.objs.size (nd X.prog X.w s.heap.objs.size []), I.laid (t' := s.toks) (fun _ _ q => Heap.get?_push_of_some _ q) (Nat.le_refl _) (ndOk ndAt_new), rfl, ?_⟩
  refine kk (.ownN []) _ F _ q (Stp.newO E.sub hp) ⟨s.heap.objs.size, rfl, ⟨[], upd_same, ?_, .nil⟩, E.sub.free hp, hp⟩
  exact beq_eq_false_iff_ne.mpr (Nat.ne_of_gt I.big)
/-! writing -/
theorem RepN.snoc {P : Program} {w : World} {K : PySem.W.Frag} {F : Hp} {k : NestedKey} {d : D} {a : Addr} {v : V} (hk : Rep P w K F (ofK k) (.ref a)) (hd : k.depth ≤ 8) (h : Rep P w K F d v) : ∀ {xs : List (NestedKey × D)} {raw : Raw}, RepN P w K F xs raw → RepN P w K F (xs ++ [(k, d)]) (raw ++ [(k, a, v)])
  | _, _, .nil => .cons hk hd h .nil
  | _, _, .cons hk' hd' h' t => .cons hk' hd' h' (RepN.snoc hk hd h t)
/-- a new key -/
theorem nd_put {pins : List (Addr × Obj)} {σ : L2.St} {s : Shared} {F H : Hp} {Q : Unit → Shared → Prop} {E : Value → Shared → Prop} {A : Around} (hu : (nestedKind X.prog X.w).room A.in1) (I : Inv X pins σ H s) (sm : Same F H) {p : Addr} {raw : Raw} {xs : List (NestedKey × D)} {ks : List NestedKey} {d : D} {y v : V} {u r : Value}
    (hp : H p = some (nd X.prog X.w p raw)) (rn : RepN X.prog X.w X.K F xs raw) (hz : xs.length < sizeLine) (rk : Rep X.prog X.w X.K F (ofK (.tup ks)) y) (hd : (NestedKey.tup ks).depth ≤ 8) (ry : RelV y u) (rv : RelV v r) (rd : Rep X.prog X.w X.K F d v) (hno : nkGet xs (.tup ks) = none)
    (h : ∀ a s', y = .ref a → Inv X pins σ (upd H p (nd X.prog X.w p (raw ++ [(.tup ks, a, v)]))) s' → Q () s') : wpAny (model X.prog X.w) A (setItem (.ref p) u r) Q E s := by
  have hk' := key_is I sm _ _ _ rk ry
  obtain ⟨hz', ys, rel, dd⟩ := nd_of I sm (.inl hp) rn
  have hl : raw.length < sizeLine := by rw [← rn.length]; exact hz
  cases rk with
  | @tup ax vs _ hq rr =>
    cases ry
    have hnone : atKey ys (.tup ks) = none := by
      rcases nd_get (.tup ks) rn rel with ⟨_, e2⟩ | ⟨d', a, v, u, e1, _⟩
      · exact e2
      · rw [e1] at hno; cases hno
    refine wpAny_setItem_heap hu (k := NestedKey.tup ks) (hsz := by rw [← ndRel.length rel]; exact hz') ⟨hk', hd⟩ dd fun h' dd' hs => ?_
    rw [storedH_new hnone] at dd'
    obtain ⟨o, es, ep, h1, h2, h3, h4, _, h5⟩ := dd'
    refine h ax _ rfl ?_
    refine d_write (ob := nd X.prog X.w p (raw ++ [(.tup ks, ax, v)])) (t' := s.toks + (nestedKind X.prog X.w).draws (.tup ks)) I (by rw [hp]; exact True.intro) hs ⟨o, h1⟩ (ndOk ⟨by rw [List.length_append, List.length_singleton]; omega, ys ++ [(.tup ks, ax, r)], Paired.snoc rel ⟨rfl, rfl, rv⟩, o, es, ep, h1, h2, h3, h4, h5⟩)
end
end W3
end
section
set_option Elab.async false
set_option linter.all false
set_option maxRecDepth 100000
set_option maxHeartbeats 2000000
/-! LK: dicts by nested tuples: statements, walks. -/
namespace W3
open PySem PySem.Spec PyProof.Rows L2

section
variable {X : Cx} {F0 H0 : Hp} {ρ ρ' : Rho} {N L A G : List Str} {k : Nat} {nx : Rho → Prop} {rt : D → Prop} {P : D → Prop} {PL : List D → Prop} {a b c e e2 tg : Expr} {es : List Expr} {st : Stmt} {sts : List Stmt} {pos apos cpos p1 : Pos}
/-! ### freezing, looking -/
theorem wb_frzN {n : Nat} {xs : List (NestedKey × D)} (l : Pt ρ n (.ownN xs) ρ) (p : Pt ρ n (.d (.dn xs)) ρ') (h : WB X F0 H0 ρ' sts nx rt) : WB X F0 H0 ρ sts nx rt := fun σ F H E0 E k1 k2 => by
  refine ⟨fun pins s I => ?_⟩
  have e := p.eq
  subst e
  obtain ⟨p, h1, ⟨raw, h2, hs, r⟩, h3, h4⟩ := E.own n _ l.get rfl
  obtain ⟨od, I1⟩ := I.lock h2 True.intro
  have sm : Same F (upd F p (.frz od (nd X.prog X.w p raw))) := fun b u e => by rw [upd_ne (ne_of_none e h3)]; exact e
  have E' := E.freeze (o := .frz od (nd X.prog X.w p raw)) h1 l.get rfl h3 h4 (.dn upd_same hs (r.mono sm))
  exact (h σ _ _ E0 E' (fun ρ2 σ2 F2 H2 p2 E2 s2 => k1 ρ2 σ2 F2 H2 p2 E2 (sm.trans s2)) k2).go pins s I1
theorem wb_frzK {n : Nat} {xs : List (Int × D)} (l : Pt ρ n (.ownK xs) ρ) (p : Pt ρ n (.d (.dk xs)) ρ') (h : WB X F0 H0 ρ' sts nx rt) : WB X F0 H0 ρ sts nx rt := fun σ F H E0 E k1 k2 => by
  refine ⟨fun pins s I => ?_⟩
  have e := p.eq
  subst e
  obtain ⟨p, h1, ⟨kvs, h2, r⟩, h3, h4⟩ := E.own n _ l.get rfl
  obtain ⟨od, I1⟩ := I.lock h2 True.intro
  have sm : Same F (upd F p (.frz od (.dK kvs))) := fun b u e => by rw [upd_ne (ne_of_none e h3)]; exact e
  have E' := E.freeze (o := .frz od (.dK kvs)) h1 l.get rfl h3 h4 (.dk upd_same (r.mono sm))
  exact (h σ _ _ E0 E' (fun ρ2 σ2 F2 H2 p2 E2 s2 => k1 ρ2 σ2 F2 H2 p2 E2 (sm.trans s2)) k2).go pins s I1
theorem Fm.frzM {Pg : Program} {w : World} {K : PySem.W.Frag} {F H : Hp} {σ : L2.St} (E : Fm Pg w K F0 H0 ρ σ F H) {n : Nat} {xs : List (NestedKey × D)} (hn : ρ[n]? = some (.ownN xs)) : ∃ p raw, σ[n]? = some (some (V.ref p)) ∧ F p = none ∧ H0 p = none ∧ H p = some (nd Pg w p raw) ∧ Fm Pg w K F0 H0 (ρ.set n (.d (.dm xs))) σ (upd F p (nd Pg w p raw)) H := by
  obtain ⟨p, h1, ⟨raw, h2, hs, r⟩, h3, h4⟩ := E.own n _ hn rfl
  have sm : Same F (upd F p (nd Pg w p raw)) := fun b u e => by rw [upd_ne (ne_of_none e h3)]; exact e
  have q := E.freeze (o := nd Pg w p raw) h1 hn rfl h3 h4 (.dm upd_same hs (r.mono sm))
  rw [upd_eta h2] at q
  exact ⟨p, raw, h1, h3, h4, h2, q⟩
theorem noT_nd {Pg : Program} {w : World} {p : Addr} {raw : Raw} : NoT (nd Pg w p raw) := ⟨(fun _ z => nomatch z), (fun _ _ z => nomatch z)⟩
theorem wt_thawN {n : Nat} {xs : List (NestedKey × D)} {PB : Bool → Prop} (l : Pt ρ n (.ownN xs) ρ) (p : Pt ρ n (.d (.dm xs)) ρ') (h : WT X F0 H0 ρ' e PB) : WT X F0 H0 ρ e PB := fun σ F H Q E kk => by
  have e := p.eq
  subst e
  obtain ⟨p, raw, h1, h2, h3, h4, E'⟩ := E.frzM l.get
  exact h σ _ H Q E' fun b F' H' pb s => kk b F H' pb (Fm.thaw_back E.sub h2 h4 s)
theorem ww_thawN {n : Nat} {xs : List (NestedKey × D)} {PB : Bool → Prop} (l : Pt ρ n (.ownN xs) ρ) (p : Pt ρ n (.d (.dm xs)) ρ') (h : WW X F0 H0 ρ' e PB) : WW X F0 H0 ρ e PB := fun σ F H Q E kk => by
  have e := p.eq
  subst e
  obtain ⟨p, raw, h1, h2, h3, h4, E'⟩ := E.frzM l.get
  exact h σ _ H Q E' fun b F' H' pb s => kk b F H' pb (Fm.thaw_back E.sub h2 h4 s)
theorem wd_thawN {n : Nat} {xs : List (NestedKey × D)} (l : Pt ρ n (.ownN xs) ρ) (p : Pt ρ n (.d (.dm xs)) ρ') (h : WD X F0 H0 ρ' e fun d => Tupl d ∧ P d) : WD X F0 H0 ρ e P := fun σ F H Q E kk => by
  have e := p.eq
  subst e
  obtain ⟨p, raw, h1, h2, h3, h4, E'⟩ := E.frzM l.get
  exact h σ _ H Q E' fun d v F' H' pb s r => kk d v _ H' pb.2 (Fm.thaw_out h2 s) (Tupl.rep (s.ff p _ upd_same) noT_nd r pb.1)
/-! ### x[e] = e2, a new key -/
def rSetN (X : Cx) : TSet := fun o i v H Q => ∃ (F : Hp) (p : Addr) (raw : Raw) (xs : List (NestedKey × D)) (ks : List NestedKey) (d : D), o = .ref p ∧ H p = some (nd X.prog X.w p raw) ∧ Same F H ∧ RepN X.prog X.w X.K F xs raw ∧ xs.length < sizeLine ∧ Rep X.prog X.w X.K F (ofK (.tup ks)) i ∧ (NestedKey.tup ks).depth ≤ 8 ∧ Rep X.prog X.w X.K F d v ∧ nkGet xs (.tup ks) = none ∧
  ∀ a, i = .ref a → Q (upd H p (nd X.prog X.w p (raw ++ [(.tup ks, a, v)])))
theorem set_nd (hu : (nestedKind X.prog X.w).room X.A.in1) : PSet X (rSetN X) := by
  intro pins s σ H o i v ov iv u Q I ro ri rv h
  obtain ⟨F, p, raw, xs, ks, d, rfl, hp, sm, rn, hz, rk, hd, rd, hno, q⟩ := h
  cases ro
  exact nd_put hu I sm hp rn hz rk hd ri rv rd hno fun a s' e I' => ⟨_, I', q a e⟩
theorem ws_putN {x : Str} {n : Nat} {xs : List (NestedKey × D)} {kp : Pos} (C : Cxt X N L A G k) (l : Lk N ρ x n (.ownN xs)) (m : x ∈ L) (h : WD X F0 H0 ρ e2 fun d => WD X F0 H0 ρ e fun d1 => ∃ ks, IsT d1 ks ∧ nkGet xs (.tup ks) = none ∧ xs.length < sizeLine ∧ ∃ ρ', Pt ρ n (.ownN (xs ++ [(.tup ks, d)])) ρ' ∧ nx ρ')
    (ha : ∀ v, assign (.Subscript (.Name x p1) e kp) X.env v = (do
      let ov ← holding [v] (eval (.Name x p1) X.env)
      let iv ← holding [v, ov] (eval e X.env)
      standAt kp
      holding [v, ov, iv] (setItem ov iv v)
      release [v, ov, iv] []) := by intro _; rfl)
    (hsw : swapsWithSole [.Subscript (.Name x p1) e kp] e2 pos.line X.env = pure false := by rfl) (hw : swappedStores [.Subscript (.Name x p1) e kp] e2 X.env = pure none := by rfl)
    (h1 : (assignEach [.Subscript (.Name x p1) e kp] X.env).map (·.2) = [assign (.Subscript (.Name x p1) e kp) X.env] := by rfl) :
    WS X F0 H0 ρ (.Assign [.Subscript (.Name x p1) e kp] e2 pos) nx rt := fun σ F H E0 E k1 k2 => by
  refine run_ps (ps_asg pe_run (pg_sub (wd_ref C l m rfl) pe_run (set_nd C.u9) ha) hsw hw h1) ?_
  obtain ⟨p, h1, ⟨raw, h2, hsm, r⟩, h3, h4⟩ := E.own n _ l.r rfl
  refine h σ F H _ E fun d v F1 H1 pp st1 rd => ⟨.ref p, h1, ?_⟩
  refine pp σ F1 H1 _ (E.stp st1) fun d1 v1 F2 H2 pp2 st2 rd1 => ?_
  obtain ⟨ks, hk, hno, hz, ρ2, pt, q⟩ := pp2
  have e := pt.eq
  subst e
  have st := st1.trans st2
  have hH2 : H2 p = some (nd X.prog X.w p raw) := st.hh _ _ h2
  have e := hk.of
  subst e
  refine ⟨F2, p, raw, xs, ks, d, rfl, hH2, st2.sub, r.mono st.ff, hz, rd1, hk.dep, rd.mono st2.ff, hno, fun a ea => ?_⟩
  subst ea
  refine k1 _ _ F2 _ q ?_ st.ff
  exact (E.stp st).mut h1 l.r rfl (st.out _ _ h2 h3) h4 rfl ⟨_, upd_same, hsm, (r.mono st.ff).snoc rd1 hk.dep (rd.mono st2.ff)⟩
end

/-! ### walks -/
section
variable {X : Cx} {pins : List (Addr × Obj)} {σ : L2.St} {H : Hp} {s : Shared} {d : Addr} {o : Obj} {raw : Raw}
theorem Inv.frzN (I : Inv X pins σ H s) (h : H d = some (.frz o (nd X.prog X.w d raw))) : ∃ (es : Array DictEntry) (ep : Nat), s.heap.get? d = some o ∧ o.ExactDict ∧ o.data = .dict es ep ∧ es.size = raw.length ∧ raw.length ≤ sizeLine ∧
    ∀ (i : Nat) (hi : i < es.size), ∃ k a v, raw[i]? = some (k, a, v) ∧ es[i].key = .ref a ∧ RelV v es[i].val := by
  obtain ⟨hg, ⟨z, ys, rel, o', es, ep, h1, h2, h3, h4, h5⟩, _⟩ := I.hok d _ h
  rw [hg] at h1; cases h1
  have hl : es.size = ys.length := size_of_entries h4
  have hl2 : raw.length = ys.length := Paired.length rel
  refine ⟨es, ep, hg, h2, h3, by omega, z, fun i hi => ?_⟩
  obtain ⟨⟨k, a, v⟩, hr⟩ : ∃ p, raw[i]? = some p := ⟨raw[i]'(by omega), List.getElem?_eq_getElem (by omega)⟩
  obtain ⟨y, hy, e1, e2, e3⟩ := paired_get rel hr
  have q := entry_at h4 i
  rw [hy, Array.getElem?_eq_getElem hi] at q
  have q' : es[i] = entryOfKey (nestedKind X.prog X.w) y := Option.some.inj q
  refine ⟨k, a, v, hr, ?_, ?_⟩
  · rw [q']; show Value.ref y.2.1 = .ref a; rw [← e2]
  · rw [q']; exact e3
end
/-- the keys of a locked dict -/
def Itn (P : Program) (w : World) (d : Addr) (o : Obj) (raw : Raw) : It := ⟨fun i H => H d = some (.frz o (nd P w d raw)) ∧ i < raw.length, fun i H x H' => H' = H ∧ ∃ k a v, raw[i]? = some (k, a, v) ∧ x = .ref a, fun i H => H d = some (.frz o (nd P w d raw)) ∧ raw.length ≤ i⟩
def ItnI (P : Program) (w : World) (d : Addr) (o : Obj) (raw : Raw) : It := ⟨fun i H => H d = some (.frz o (nd P w d raw)) ∧ i < raw.length, fun i H x H' => ∃ T k a v, raw[i]? = some (k, a, v) ∧ x = .ref T ∧ H T = none ∧ H' = upd H T (.tup [.ref a, v]), fun i H => H d = some (.frz o (nd P w d raw)) ∧ raw.length ≤ i⟩
theorem turn_keysN {P : Program} {w : World} {K : PySem.W.Frag} {tg : Expr} {d : Addr} {o : Obj} {raw : Raw} {es : Array DictEntry} {ep : Nat} (it : Addr) (hod : o.data = .dict es ep) : Turn P w K tg (Itn P w d o raw) [it] it (fun i h => h.IsKeyIter it d i raw.length ep) where
  mem := by simp
  obj := fun i h st b hb => by
    have e : b = it := by simpa using hb
    subst e
    obtain ⟨oi, e, c, dd⟩ := st
    exact ⟨oi, e, fun v z => by rw [dd] at z; cases z⟩
  keep := fun i h h' st k => st.at fun oi e => k it (by simp) oi e
  item := by
    intro X hP hw hK hc i pins s σ H E I hf st hg
    subst hP hw hK
    obtain ⟨hd, hi⟩ := hg
    obtain ⟨f0, f1, f2, f3, f4, f5⟩ := hf it (by simp)
    obtain ⟨es', ep', hgd, hx, hdt, hsz, _, ent⟩ := Inv.frzN I hd
    obtain ⟨rfl, rfl⟩ := dict_ep hod hdt
    have hi' : i < es'.size := by omega
    obtain ⟨k, a, v, hr, hkey, _⟩ := ent i hi'
    have st' := st
    rw [← hsz] at st'
    refine wpAny_pyNext_keys_item_raw st' ⟨o, hgd, hx, hdt⟩ hi' fun h' st'' sb => ?_
    have I1 : Inv X pins σ H { s with heap := h' } := I.turned (t' := s.toks) (fun b ob hb e => (sb.2 b hb).trans e) f0 f1 f3 f4 f5
    obtain ⟨oi, e, c, dd⟩ := id st''
    rw [hsz] at st''
    exact ⟨_, rfl, go_of (s := { s with heap := h' }) e c dd (by decide) ⟨.ref a, H, I1, hkey, ⟨rfl, k, a, v, hr, rfl⟩, st'', fun b hb => (hf b hb).1⟩⟩
  done := by
    intro X hP hw hK hc i pins s σ H E I hf st hg
    subst hP hw hK
    obtain ⟨hd, hi⟩ := hg
    obtain ⟨f0, f1, f2, f3, f4, f5⟩ := hf it (by simp)
    obtain ⟨es', ep', hgd, hx, hdt, hsz, _, ent⟩ := Inv.frzN I hd
    obtain ⟨rfl, rfl⟩ := dict_ep hod hdt
    have st' := st
    rw [← hsz] at st'
    exact wpAny_pyNext_keys_end_raw (I.ok.hd hc) st' ⟨o, hgd, hx, hdt⟩ (by omega) fun h' eb => ⟨rfl, I.turned (t' := s.toks) (fun b ob hb e => eb b ob hb e) f0 f1 f3 f4 f5⟩
  self := fun A i s Q E st h => wpAny_pyIter_keyiter st h
theorem turn_itemsN {P : Program} {w : World} {K : PySem.W.Frag} {elts : List Expr} {kk : Nat} {tpos : Pos} {d : Addr} {o : Obj} {raw : Raw} {es : Array DictEntry} {ep : Nat} (it : Addr) (hod : o.data = .dict es ep) :
    Turn P w K (.Tuple elts kk tpos) (ItnI P w d o raw) [it] it (fun i h => ∃ ok ov, IsItemIter h it d i raw.length ep ok ov) where
  mem := by simp
  obj := fun i h st b hb => by
    have e : b = it := by simpa using hb
    subst e
    obtain ⟨ok, ov, e⟩ := st
    exact ⟨_, e, fun v z => nomatch z⟩
  keep := fun i h h' st k => let ⟨ok, ov, e⟩ := st; ⟨ok, ov, k it (by simp) _ e⟩
  item := by
    intro X hP hw hK hc i pins s σ H E I hf st hg
    subst hP hw hK
    obtain ⟨hd, hi⟩ := hg
    obtain ⟨es', ep', hgd, hx, hdt, hsz, _, ent⟩ := Inv.frzN I hd
    obtain ⟨rfl, rfl⟩ := dict_ep hod hdt
    have hi' : i < es'.size := by omega
    obtain ⟨k, a, v, hr, hkey, hval⟩ := ent i hi'
    obtain ⟨ok, ov, he⟩ := st
    rw [← hsz] at he
    have hlt : it < s.heap.objs.size := Heap.lt_size he
    refine wpAny_pyNext_items_item_raw he ⟨o, hgd, hx, hdt⟩ hi' fun h' ho hT hz hk => ?_
    refine ⟨_, rfl, wpAny_letOwnedTupleGo_items (s := { s with heap := h' }) ho fun h'' he' sb => ?_⟩
    have hT2 : h''.get? s.heap.objs.size = some { cls := .type "tuple", data := .seq #[es'[i].key, es'[i].val] } := (sb.2 _ (Nat.ne_of_gt hlt)).trans hT
    have new : ObjOk X.prog X.w (upd H s.heap.objs.size (.tup [.ref a, v])) h'' s.heap.objs.size (.tup [.ref a, v]) :=
      ⟨by show 2 ≤ sizeLine; decide, [es'[i].key, es'[i].val], .cons hkey (.cons hval .nil), ⟨_, hT2, rfl, _, rfl⟩⟩
    have I1 : Inv X pins σ (upd H s.heap.objs.size (.tup [.ref a, v])) { s with heap := h'' } :=
      I.turnedNew (t' := s.toks) (ch := [it]) (fun b ob hb e => (sb.2 b (by simpa using hb)).trans (hk b ob (by simpa using hb) e)) hf (Nat.le_refl _) new
    refine ⟨.ref s.heap.objs.size, _, I1, rfl, ⟨_, k, a, v, hr, rfl, I.hok.fresh (Nat.le_refl _), rfl⟩, ⟨es'[i].key, es'[i].val, ?_⟩, fun b hb => ?_⟩
    · rw [hsz] at he'; exact he'
    · have e : b = it := by simpa using hb
      rw [e, upd_ne (Nat.ne_of_lt hlt)]
      exact (hf it (by simp)).1
  done := by
    intro X hP hw hK hc i pins s σ H E I hf st hg
    subst hP hw hK
    obtain ⟨hd, hi⟩ := hg
    obtain ⟨f0, f1, f2, f3, f4, f5⟩ := hf it (by simp)
    obtain ⟨es', ep', hgd, hx, hdt, hsz, _, ent⟩ := Inv.frzN I hd
    obtain ⟨rfl, rfl⟩ := dict_ep hod hdt
    obtain ⟨ok, ov, he⟩ := st
    rw [← hsz] at he
    exact wpAny_pyNext_items_end_raw (I.ok.hd hc) he ⟨o, hgd, hx, hdt⟩ (by omega) fun h' eb => ⟨rfl, I.turned (t' := s.toks) (fun b ob hb e => eb b ob hb e) f0 f1 f3 f4 f5⟩
  self := fun A i s Q E st h => let ⟨_, _, e⟩ := st; PySem.W.kcp_self e h
/-- d: a key as an item -/
theorem repN_get {P : Program} {w : World} {K : PySem.W.Frag} {F : Hp} : ∀ {xs : List (NestedKey × D)} {raw : Raw} {i : Nat} {p : NestedKey × D}, RepN P w K F xs raw → xs[i]? = some p → ∃ a v, raw[i]? = some (p.1, a, v) ∧ Rep P w K F (ofK p.1) (.ref a) ∧ Rep P w K F p.2 v
  | _, _, _, _, .nil, e => by simp at e
  | _, _, 0, _, .cons hk _ h _, e => by simp at e; subst e; exact ⟨_, _, rfl, hk, h⟩
  | _, _, i + 1, p, .cons _ _ _ t, e => by
    obtain ⟨u, v, h1, h2, h3⟩ := repN_get (i := i) (p := p) t (by simpa using e)
    exact ⟨u, v, by simpa using h1, h2, h3⟩
section
variable {X : Cx} {F0 H0 : Hp} {ρ ρ' : Rho} {N L A G : List Str} {k : Nat} {PL : List D → Prop} {tg e : Expr} {pos : Pos}
def iKeysN (X : Cx) (td : TE) : TI := fun σ H R => td σ H fun x H1 => ∃ d o raw, x = .ref d ∧ (d == sysModules) = false ∧ H1 d = some (.frz o (nd X.prog X.w d raw)) ∧ R (Itn X.prog X.w d o raw) H1
theorem pi_keysN {td : TE} (he : PE X e td) : PI X tg e (iKeysN X td) := by
  refine ⟨fun pins s σ H R I h => ?_⟩
  refine thn (he.run pins s σ H _ I h) fun u s1 ⟨x, H1, I1, rx, d, o, raw, ex, hs, hd, q⟩ => ?_
  subst ex
  obtain rfl : u = Value.ref d := rx
  obtain ⟨es, ep, hgd, hx, hdt, hsz, _, _⟩ := Inv.frzN I1 hd
  refine wpAny_pyIter_dict_raw hs ⟨o, hgd, hx, hdt⟩ (pi_one (tk := s1.toks) I1 _ (turn_keysN _ hdt) ⟨_, Heap.get?_push_size _ rfl, rfl, ?_⟩ q)
  rw [hsz] <;> rfl
def iItemsN (X : Cx) (td : TE) : TI := fun σ H R => td σ H fun x H1 => ∃ d o raw, x = .ref d ∧ (d == sysModules) = false ∧ H1 d = some (.frz o (nd X.prog X.w d raw)) ∧ R (ItnI X.prog X.w d o raw) H1
theorem pi_itemsN {elts : List Expr} {kk : Nat} {tpos apos cpos : Pos} {td : TE} (he : PE X e td) (hbase : attributeBase e "items" X.env (eval e X.env) = eval e X.env := by rfl) (hline : (apos.endLine == cpos.line) = true := by rfl) :
    PI X (.Tuple elts kk tpos) (.Call (.Attribute e "items" apos) [] [] cpos) (iItemsN X td) := by
  refine ⟨fun pins s σ H R I h => ?_⟩
  refine wpAny_Call_method (T := "dict") (id := "dict.items") hbase rfl hline F.plainAttrs_dict F.slot_dict_items F.type_dict_items (thn (he.run pins s σ H _ I h) fun u s1 ⟨x, H1, I1, rx, d, o, raw, ex, hs, hd, q⟩ => ?_)
  subst ex
  obtain rfl : u = Value.ref d := rx
  obtain ⟨es, ep, hgd, hx, hdt, hsz, _, _⟩ := Inv.frzN I1 hd
  have hm : s1.heap.DictRaw d es ep := ⟨o, hgd, hx, hdt⟩
  refine ⟨hm.typeIs, fun b q => by cases q; exact ⟨o, hgd, hx.2.1⟩, ?_⟩
  have I2 : Inv X pins σ H1 { s1 with heap := s1.heap.push { cls := .type "dict_items", data := .fields #[.ref d] } } := I1.kept (t' := s1.toks) fun b ob q => Heap.get?_push_of_some _ q
  have fin : wpAny (model X.prog X.w) X.A (pyIter (.ref s1.heap.objs.size)) (PIE X pins σ (.Tuple elts kk tpos) R) X.xe { s1 with heap := s1.heap.push { cls := .type "dict_items", data := .fields #[.ref d] } } := by
    refine wpAny_pyIter_items_raw (d := d) ⟨_, Heap.get?_push_size _ rfl, rfl, rfl⟩ (hm.at fun o e => Heap.get?_push_of_some _ e) (pi_one (tk := s1.toks) I2 _ (turn_itemsN _ hdt) ⟨.none, .none, ?_⟩ q)
    rw [hsz]
    exact Heap.get?_push_size _ rfl
  show wpAny _ _ (callWith cpos (.builtin "dict.items") [.ref d] [] []) _ X.xe s1
  exact method_meetsIn F.slot_dict_items F.entry_dict_items rfl (PySem.evalArgs_none ⟨rfl, hm.typeIs, F.args_dict_items_1 _, _, meets_dict_items_raw d hs, ⟨es, ep, hm⟩, fin⟩)
theorem wi_keysN (h : WD X F0 H0 ρ e fun d => ∃ xs : List (NestedKey × D), d = .dn xs ∧ PL (xs.map fun p => ofK p.1)) : WI X F0 H0 ρ tg e PL := fun σ F H R E kk =>
  run_pi (pi_keysN pe_run) (h σ F H _ E fun d v F1 H1 h1 s1 r1 => by
    obtain ⟨xs, rfl, p⟩ := h1
    cases r1 with
    | @dn a o raw _ hq hs r =>
      refine ⟨a, o, raw, rfl, hs, s1.sub _ _ hq, kk _ _ F1 H1 p s1 ⟨fun i H hi s => ?_, fun H s => ?_, fun i H x H' F2 hi s2 s3 y => ?_⟩⟩
      · rw [List.length_map] at hi
        exact ⟨s _ _ hq, by rw [← r.length]; exact hi⟩
      · exact ⟨s _ _ hq, by rw [List.length_map, r.length]; exact Nat.le_refl _⟩
      · rw [List.length_map] at hi
        obtain ⟨rfl, kx, ax, vx, e, rfl⟩ := y
        obtain ⟨a', v', e', rk, rv⟩ := repN_get r (List.getElem?_eq_getElem hi)
        rw [e] at e'; cases e'
        exact ⟨ofK xs[i].1, F2, by rw [List.getElem?_map, List.getElem?_eq_getElem hi]; rfl, Stp.refl s3, rk.mono s2⟩)
theorem wi_itemsN {elts : List Expr} {kk' : Nat} {tpos apos cpos : Pos} (h : WD X F0 H0 ρ e fun d => ∃ xs : List (NestedKey × D), d = .dn xs ∧ PL (xs.map fun p => .tup [ofK p.1, p.2])) (hbase : attributeBase e "items" X.env (eval e X.env) = eval e X.env := by rfl) (hline : (apos.endLine == cpos.line) = true := by rfl) :
    WI X F0 H0 ρ (.Tuple elts kk' tpos) (.Call (.Attribute e "items" apos) [] [] cpos) PL := fun σ F H R E kk =>
  run_pi (pi_itemsN pe_run hbase hline) (h σ F H _ E fun d v F1 H1 h1 s1 r1 => by
    obtain ⟨xs, rfl, p⟩ := h1
    cases r1 with
    | @dn a o raw _ hq hs r =>
      have hl : (xs.map fun p => D.tup [ofK p.1, p.2]).length = xs.length := List.length_map ..
      refine ⟨a, o, raw, rfl, hs, s1.sub _ _ hq, kk _ _ F1 H1 p s1 ⟨fun i H hi s => ?_, fun H s => ?_, fun i H x H' F2 hi s2 s3 y => ?_⟩⟩
      · rw [hl] at hi
        exact ⟨s _ _ hq, by rw [← r.length]; exact hi⟩
      · exact ⟨s _ _ hq, by rw [hl, r.length]; exact Nat.le_refl _⟩
      · rw [hl] at hi
        obtain ⟨T, kx, ax, vx, e, rfl, hT, rfl⟩ := y
        obtain ⟨a', v', e', rk, rv⟩ := repN_get r (List.getElem?_eq_getElem hi)
        rw [e] at e'; cases e'
        have st := Stp.new (o := .tup [.ref ax, vx]) s3 hT
        exact ⟨.tup [ofK xs[i].1, xs[i].2], _, by rw [List.getElem?_map, List.getElem?_eq_getElem hi]; rfl, st, .tup (SqT.of upd_same) (.cons (rk.mono (s2.trans st.ff)) (.cons (rv.mono (s2.trans st.ff)) .nil))⟩)
/-- list(d) -/
theorem call_listN (hc : X.calm = true) : CallR X (.type "list") (fun xs H Q => ∃ d o raw, xs = [V.ref d] ∧ (d == sysModules) = false ∧ H d = some (.frz o (nd X.prog X.w d raw)) ∧ ∀ p, H p = none → Q (.ref p) (upd H p (.lst (raw.map fun r => V.ref r.2.1)))) := by
  intro pins s σ H xs us Q I r h
  obtain ⟨d, o, raw, rfl, hs, hd, q⟩ := h
  obtain ⟨u, rfl, rx⟩ := r.one
  cases rx
  obtain ⟨es, ep, hgd, hx, hdt, hsz, hz, ent⟩ := Inv.frzN I hd
  refine PySem.W.kdl_call (kdl_raw hs hx hdt) (I.ok.hd hc) hgd (by omega) fun h' tk acc' c' kp e it => ?_
  have hv : Vals (raw.map fun r => V.ref r.2.1) acc'.toList := by
    have hl : acc'.toList.length = raw.length := by rw [Array.length_toList, it.1]; exact hsz
    have gen : ∀ (l : List Value) (vs : List V), l.length = vs.length → (∀ (j : Nat) (v : Value), l[j]? = some v → ∃ x, vs[j]? = some x ∧ RelV x v) → Vals vs l := by
      intro l
      induction l with
      | nil => intro vs h _; cases vs with
        | nil => exact .nil
        | cons _ _ => cases h
      | cons y l ih =>
        intro vs h hj
        cases vs with
        | nil => cases h
        | cons x vs =>
          obtain ⟨x', e1, r1⟩ := hj 0 y rfl
          cases e1
          exact .cons r1 (ih vs (by simpa using h) fun j v e => by simpa using hj (j + 1) v (by simpa using e))
    refine gen _ _ (by rw [hl, List.length_map]) fun j v ej => ?_
    obtain ⟨en, hen, hv⟩ := it.2 j v (by rw [← Array.getElem?_toList]; exact ej)
    obtain ⟨hj, e2⟩ := Array.getElem?_eq_some_iff.mp hen
    obtain ⟨k, a, w, hr, hkey, _⟩ := ent j hj
    refine ⟨.ref a, by rw [List.getElem?_map, hr]; rfl, ?_⟩
    rw [hv, ← e2]; exact hkey
  exact ⟨.ref s.heap.objs.size, _, I.laid (t' := tk) kp (Nat.le_refl _) (show ObjOk X.prog X.w _ _ _ (.lst _) from ⟨by rw [List.length_map]; exact hz, acc'.toList, c', hv, by rw [Array.toArray_toList]; exact e⟩), rfl, q _ (I.hok.fresh (Nat.le_refl _))⟩
theorem cd_listN (C : Cxt X N L A G k) : CallD X (.type "list") (fun ds P => ∃ xs : List (NestedKey × D), ds = [.dn xs] ∧ P (.lst (xs.map fun p => ofK p.1))) :=
  ⟨_, call_listN C.calm, fun F H vs ds P Q s r h kk => by
    obtain ⟨xs, rfl, p⟩ := h
    obtain ⟨v, rfl, r1⟩ := reps1 r; clear r
    cases r1 with
    | @dn a o raw _ hq hs r =>
      refine ⟨a, o, raw, rfl, hs, s _ _ hq, fun q hq0 => kk _ _ _ _ p (Stp.new s hq0) (.lst upd_same ?_)⟩
      have gen : ∀ {xs : List (NestedKey × D)} {raw : Raw}, RepN X.prog X.w X.K F xs raw → RepsX X F (xs.map fun p => ofK p.1) (raw.map fun r => V.ref r.2.1) := by
        intro xs raw r
        induction xs generalizing raw with
        | nil => cases r; exact .nil
        | cons x xs ih => cases r with
          | cons hk hd h t => exact .cons hk (ih t)
      exact (gen r).mono (Stp.new s hq0).ff⟩
end
end W3
end
section
set_option Elab.async false
set_option linter.all false
set_option maxRecDepth 100000
set_option maxHeartbeats 2000000
/-! LL: dicts by nested tuples: {x: True for x in ..}, {k: v}, len. -/
namespace W3
open PySem PySem.Spec PyProof.Rows L2

/-- the first of each -/
def addN (acc : List (List NestedKey)) (ks : List NestedKey) : List (List NestedKey) := if ks ∈ acc then acc else acc ++ [ks]
def firsts (kss : List (List NestedKey)) : List (List NestedKey) := kss.foldl addN []
def trues (kss : List (List NestedKey)) : List (NestedKey × D) := kss.map fun ks => (.tup ks, .bl true)
theorem addN_length (acc : List (List NestedKey)) (ks : List NestedKey) : (addN acc ks).length ≤ acc.length + 1 := by
  unfold addN; split
  · omega
  · rw [List.length_append]; exact Nat.le_refl _
theorem trues_get (kss : List (List NestedKey)) (ks : List NestedKey) : nkGet (trues kss) (.tup ks) = if ks ∈ kss then some (.bl true) else none := by
  induction kss with
  | nil => rfl
  | cons x kss ih =>
    unfold trues nkGet at ih ⊢
    rw [List.map_cons, List.find?_cons]
    by_cases e : x = ks
    · subst e; simp
    · have : decide ((NestedKey.tup x, D.bl true).1 = NestedKey.tup ks) = false := decide_eq_false fun z => e (by cases z; rfl)
      rw [this, ih]
      have q : (ks ∈ x :: kss) ↔ ks ∈ kss := by rw [List.mem_cons]; exact ⟨fun z => z.resolve_left fun z => e z.symm, .inr⟩
      simp only [q]
theorem repN_true {P : Program} {w : World} {K : PySem.W.Frag} {F : Hp} : ∀ {kss : List (List NestedKey)} {raw : Raw} {ys : List (NestedKey × Addr × Value)}, RepN P w K F (trues kss) raw → ndRel raw ys → ∀ y ∈ ys, y.2.2 = .bool true
  | [], _, _, .nil, .nil, y, hy => nomatch hy
  | k :: kss, _, _, .cons hk hd h t, .cons r rr, y, hy => by
    rcases List.mem_cons.mp hy with rfl | hy
    · cases h
      exact r.2.2
    · exact repN_true t rr y hy
section
variable {X : Cx} {pins : List (Addr × Obj)} {σ : L2.St} {F H : Hp} {s : Shared}
theorem Cxt.u9' {N L A G : List Str} {k : Nat} (C : Cxt X N L A G k) : (nestedKind X.prog X.w).room X.A := by
  show X.A.units + 8 < cLine
  have := C.room.un; omega
/-- d[k] = True -/
theorem nd_true {Q : Unit → Shared → Prop} {E : Value → Shared → Prop} {A : Around} (hu : (nestedKind X.prog X.w).room A) (I : Inv X pins σ H s) (sm : Same F H) {p : Addr} {raw : Raw} {kss : List (List NestedKey)} {ks : List NestedKey} {y : V} {u : Value}
    (hp : H p = some (nd X.prog X.w p raw)) (rn : RepN X.prog X.w X.K F (trues kss) raw) (hz : kss.length < sizeLine) (rk : Rep X.prog X.w X.K F (ofK (.tup ks)) y) (hd : (NestedKey.tup ks).depth ≤ 8) (ry : RelV y u)
    (h : ∀ raw' s', RepN X.prog X.w X.K F (trues (addN kss ks)) raw' → Inv X pins σ (upd H p (nd X.prog X.w p raw')) s' → Q () s') : wpAny (model X.prog X.w) A (dictSet p u (.bool true)) Q E s := by
  have hk' := key_is I sm _ _ _ rk ry
  obtain ⟨hz', ys, rel, dd⟩ := nd_of I sm (.inl hp) rn
  have hl : raw.length < sizeLine := by rw [← rn.length]; unfold trues; rw [List.length_map]; exact hz
  have rk0 := rk
  cases rk with
  | @tup ax vs _ hq rr =>
    cases ry
    refine wpAny_dictSet_heap hu (k := NestedKey.tup ks) (hsz := by rw [← ndRel.length rel]; exact hz') ⟨hk', hd⟩ dd fun h' dd' hs => ?_
    rcases nd_get (.tup ks) rn rel with ⟨e1, e2⟩ | ⟨d', a, v, u, e1, e2, _, _⟩
    · rw [storedH_new e2] at dd'
      have hn : ks ∉ kss := fun hm => by rw [trues_get, if_pos hm] at e1; cases e1
      obtain ⟨o, es, ep, h1, h2, h3, h4, _, h5⟩ := dd'
      have e3 : trues (addN kss ks) = trues kss ++ [(.tup ks, .bl true)] := by unfold addN; rw [if_neg hn]; unfold trues; rw [List.map_append]; rfl
      refine h (raw ++ [(NestedKey.tup ks, ax, V.bl true)]) _ (by rw [e3]; exact rn.snoc rk0 hd (.bl true)) ?_
      exact d_write (ob := nd X.prog X.w p (raw ++ [(NestedKey.tup ks, ax, V.bl true)])) (t' := s.toks + (nestedKind X.prog X.w).draws (.tup ks)) I (by rw [hp]; exact True.intro) hs ⟨o, h1⟩ (ndOk ⟨by rw [List.length_append, List.length_singleton]; omega, ys ++ [(NestedKey.tup ks, ax, Value.bool true)], Paired.snoc (a := (NestedKey.tup ks, ax, V.bl true)) (b := (NestedKey.tup ks, ax, Value.bool true)) rel ⟨rfl, rfl, rfl⟩, o, es, ep, h1, h2, h3, h4, h5⟩)
    · rw [storedH_old e2] at dd'
      have hn : ks ∈ kss := by
        by_cases z : ks ∈ kss
        · exact z
        · rw [trues_get, if_neg z] at e1; cases e1
      have ey : ys.map (putAt (NestedKey.tup ks) (.bool true)) = ys := by
        have ht := repN_true rn rel
        have : ∀ y ∈ ys, putAt (NestedKey.tup ks) (.bool true) y = y := fun y hy => by
          unfold putAt
          split
          · rw [← ht y hy]
          · rfl
        exact (List.map_congr_left this).trans (List.map_id _)
      rw [ey] at dd'
      obtain ⟨o, es, ep, h1, h2, h3, h4, _, h5⟩ := dd'
      have e3 : addN kss ks = kss := if_pos hn
      refine h raw _ (by rw [e3]; exact rn) ?_
      exact d_write (ob := nd X.prog X.w p raw) (t' := s.toks + (nestedKind X.prog X.w).draws (.tup ks)) I (by rw [hp]; exact True.intro) hs ⟨o, h1⟩ (ndOk ⟨hz', ys, rel, o, es, ep, h1, h2, h3, h4, h5⟩)
end
section
variable {X : Cx} {F0 H0 : Hp} {ρ ρ' : Rho} {N L A G : List Str} {k : Nat} {PV : Sl → Prop} {P : D → Prop} {a b e iter : Expr} {pos kp tp vp : Pos}
/-- the block's loop: at D the dict, y the name (slot n) -/
theorem dcN_core {y : Str} {n j : Nat} {scope : Scope} {pos' : Pos} {use : Option (Value → Sem Unit)} {Qf : Value → Shared → Prop} {PK : List (List NestedKey) → Prop} {σ : L2.St} {F H : Hp} {pins : List (Addr × Obj)} {s : Shared} (C : Cxt X N L A G k) (ok : BlkOk X.N X.env.scope scope [(y, n)]) (hn : N[n]? = some y) (hL : okL scope [y] = true) (hA : ([y].all fun x => inKind scope [.local] x) = true)
    (h : WI X F0 H0 ρ (.Name y tp) iter fun ds => ds.length < sizeLine ∧ ∃ kss : List (List NestedKey), ds = kss.map (fun ks => .tup (ofKs ks)) ∧ (∀ ks ∈ kss, (NestedKey.tup ks).depth ≤ 8) ∧ PK kss)
    (hs : ∀ x, foldedSetIterable iter X.env x = pure x) (E : FmX X F0 H0 ρ σ F H) (I : Inv X pins σ H s)
    (hRR : ∀ (D Ca : Addr) (s' : Shared) (m : Str → Option Value) (H' F' : Hp) (kss : List (List NestedKey)) (raw : Raw), PK kss → Inv X pins σ H' s' → Stp F H F' H' → H D = none → F' D = none → H' D = some (nd X.prog X.w D raw) → (D == sysModules) = false → RepN X.prog X.w X.K F' (trues (firsts kss)) raw → s'.heap.Ns Ca m → FpOk X pins H' Ca →
      compPost (model X.prog X.w) X.A X.xe use Qf (.ref D) Ca (.ok .next) s') :
    wpAny (model X.prog X.w) X.A (comprehension (.DictComp (.Name y kp) (.Constant (.bool true) j vp) [⟨.Name y tp, iter, [], 0⟩] scope pos) scope X.env pos' newDict false (eval iter X.env) use) Qf X.xe s := by
  have hN : X.N.Nodup := by rw [C.hN]; exact C.nd
  have hfree : ∀ y ∈ scope.names, y.2 = .free → ∃ c, X.env.cells.lookup y.1 = some c := fun y hy e => by
    rcases ok.free y hy e with k | k
    · exact I.ok.has _ (.inl k)
    · exact I.ok.has _ (.inr k)
  refine wpAny_comprehension_free (use := use) rfl hs (closure_ok hfree) ok.kind (fun y hy e => by rw [ok.uniq y hy, e]) (thn ((h σ F H (fun J H1 => ∃ ds F1, (ds.length < sizeLine ∧ ∃ kss : List (List NestedKey), ds = kss.map (fun ks => .tup (ofKs ks)) ∧ (∀ ks ∈ kss, (NestedKey.tup ks).depth ≤ 8) ∧ PK kss) ∧ Stp F H F1 H1 ∧ WalkD X.prog X.w X.K J ds F1) E (fun J ds F1 H1 p s1 wk => ⟨ds, F1, p, s1, wk⟩)).go pins s I) fun xv s1 hx => thn hx fun itv s2 h2 => ?_)
  obtain ⟨it, fp, tn, J, H2, e, I2, T, st2, f2, ds, F1, ⟨hz, kss, eds, hdep, hpv⟩, s1, wk⟩ := h2
  subst e
  refine wpAny_newObj_type (newEnv_comp ?_)
  generalize hD : s2.heap.objs.size = D
  have hDn : H2 D = none := I2.hok.fresh (Nat.le_of_eq hD)
  have hFD : F1 D = none := s1.sub.free hDn
  have hDs : (D == sysModules) = false := by rw [← hD]; exact beq_eq_false_iff_ne.mpr (Nat.ne_of_gt I2.big)
  generalize hs3 : ({ s2 with heap := s2.heap.push { cls := .type "dict", data := .dict #[] } } : Shared) = s3
  have I3 : Inv X pins σ (upd H2 D (nd X.prog X.w D [])) s3 := by
    rw [← hs3]
    refine I2.laid (t' := s2.toks) (fun b o e => Heap.get?_push_of_some _ e) (Nat.le_of_eq hD) ?_
    rw [← hD]
    exact ndOk ndAt_new
  have h3 : s3.heap = s2.heap.push { cls := .type "dict", data := .dict #[] } := by rw [← hs3]
  have sz : ∀ b ∈ fp, b < s2.heap.objs.size := fun b hb => by
    obtain ⟨o, e, _⟩ := T.obj _ _ st2 b hb
    exact Heap.lt_size e
  have f3 : ∀ b ∈ fp, FpOk X pins (upd H2 D (nd X.prog X.w D [])) b ∧ b < s3.heap.objs.size := fun b hb => by
    have hlt := sz b hb
    refine ⟨⟨?_, (f2 b hb).2⟩, by rw [h3, Heap.size_push]; exact Nat.lt_succ_of_lt hlt⟩
    rw [upd_ne (by rw [← hD]; exact Nat.ne_of_lt hlt)]
    exact (f2 b hb).1
  have st3 : tn 0 s3.heap := T.keep _ _ _ st2 fun b _ o e => by rw [h3]; exact Heap.get?_push_of_some _ e
  have I4 := block_start I3 ok hN f3
  -- the block
  let q : Bq := ⟨s3, upd H2 D (nd X.prog X.w D []), s3.heap.objs.size, cellsFrom (s3.heap.objs.size + 1) scope.names (cloFrom X.env.cells scope.names []), fp⟩
  have CB : Cxt (q.cx X scope) N [y] [y] [] k := cxt_q C q hL hA rfl
  have ihl : ∀ b ∈ fp, (upd H2 D (nd X.prog X.w D [])) b = none := fun b hb => (f3 b hb).1.1
  have stat : ∀ {σ' : L2.St} {H' : Hp} {s' : Shared}, Inv (q.cx X scope) [] σ' H' s' → (∀ b ∈ fp, H' b = none) → ∀ b ∈ fp, FpOk (q.cx X scope) [] H' b := fun {σ' H' s'} I' hn b hb =>
    ⟨hn b hb, (I'.ok.exf b hb).1, I'.ok.exfs b hb, .inl hb, fun x c e => (I'.ok.exf b hb).2 x c e, fun p hp => absurd (show p ∈ ([] : List (Addr × Obj)) ++ [] from hp) (by simp)⟩
  have E1 : FmX X F0 H0 (wipeR ρ [n]) (L2.wipe σ [n]) F1 (upd H2 D (nd X.prog X.w D [])) := ((E.stp s1).stp (Stp.newO s1.sub hDn)).wipe [n]
  have apart : ∀ (i : Nat) (z : Sl), (wipeR ρ [n])[i]? = some z → z.isOwn = true → (L2.wipe σ [n])[i]? ≠ some (some (V.ref D)) := fun i z ez qz ej => by
    obtain ⟨p, e1, e2, _⟩ := ((E.stp s1).wipe [n]).own i z ez qz
    rw [e1] at ej
    cases ej
    obtain ⟨o, eo⟩ := e2.some
    rw [hDn] at eo; cases eo
  have h0D : H0 D = none := (E.h0.trans s1.hh).free hDn
  have loop : codeAny (model X.prog X.w) X.A (.compLoop (.DictComp (.Name y kp) (.Constant (.bool true) j vp) [⟨.Name y tp, iter, [], 0⟩] scope pos) 0 (.ref it) (.ref D) (q.cx X scope).env) (compPost (model X.prog X.w) X.A X.xe use Qf (.ref D) s3.heap.objs.size) { s3 with heap := pushCells (s3.heap.push { cls := .type "dict", data := .dict #[] }) scope.names } := by
    refine compLoop_anyD (fun m s' => ∃ i H' F' raw, i + m = ds.length ∧ Inv (q.cx X scope) [] (L2.wipe σ [n]) H' s' ∧ tn i s'.heap ∧ (∀ b ∈ fp, H' b = none) ∧ FmX X F0 H0 (wipeR ρ [n]) (L2.wipe σ [n]) F' H' ∧ Stp F1 H2 F' H' ∧ F' D = none ∧ H' D = some (nd X.prog X.w D raw) ∧ RepN X.prog X.w X.K F' (trues ((kss.take i).foldl addN [])) raw) ?_ ds.length
      ⟨0, _, F1, [], Nat.zero_add _, I4, T.keep _ _ _ st3 fun b _ o e => pushCells_keeps _ _ _ _ (Heap.get?_push_of_some _ e), ihl, E1, Stp.newO s1.sub hDn, hFD, upd_same, .nil⟩
    rintro m s5 ⟨i, H5, F5, raw, eim, I5, st5, n5, E5, s15, hF5, hH5, rn⟩
    have hkl : ds.length = kss.length := by rw [eds, List.length_map]
    rcases m with _ | m
    · have ei : i = ds.length := by omega
      subst ei
      have td := T.done (q.cx X scope) rfl rfl rfl C.calm _ [] s5 _ H5 (fun _ _ => False) I5 (stat I5 n5) st5 (wk.stops H5 (s15.ff.trans s15.sub))
      refine thnF td fun r s6 ⟨hr, I6⟩ => ?_
      subst hr
      have I7 : Inv X pins σ H5 s6 := I3.call' (ch := fp) I6.os I6.base I6.hok I6.bare fun b hb => ⟨(f3 b hb).1.2.2.2.1, (f3 b hb).1.2.1, (f3 b hb).1.2.2.2.2.1, (f3 b hb).1.2.2.2.2.2⟩
      have nC : H5 s3.heap.objs.size = none := I6.free
      obtain ⟨m, hns, _⟩ := I6.loc
      have hns : s6.heap.Ns s3.heap.objs.size m := hns
      have et : (kss.take ds.length).foldl addN [] = firsts kss := by rw [hkl, List.take_length]; rfl
      rw [et] at rn
      exact hRR D _ s6 m H5 F5 kss raw hpv I7 (s1.trans s15) (s1.free hDn) hF5 hH5 hDs rn hns (I3.fpOk (H' := H5) (Nat.le_refl _) nC)
    · have hlt : i < ds.length := by omega
      have hlt' : i < kss.length := by omega
      have ti := T.item (q.cx X scope) rfl rfl rfl C.calm i [] s5 _ H5 (fun _ _ => False) I5 (stat I5 n5) st5 (wk.goes i H5 hlt (s15.ff.trans s15.sub))
      refine thnF ti fun r s6 ⟨u, hr, h6⟩ => ?_
      subst hr
      refine thnF h6 fun _ s7 ⟨x, H7, I7, r7, y7, st7, n7⟩ => ?_
      obtain ⟨d, F7, ed, s57, rx⟩ := wk.yields i H5 x H7 F5 hlt s15.ff s15.sub y7
      have hd : d = .tup (ofKs kss[i]) := by
        have e2 : ds[i]? = some (.tup (ofKs kss[i])) := by rw [eds, List.getElem?_map, List.getElem?_eq_getElem hlt']; rfl
        rw [ed] at e2; exact Option.some.inj e2
      subst hd
      have I7' := I7.pinned (stat I7 n7) (T.obj _ _ st7)
      obtain ⟨hx, hf⟩ := CB.asg y (by simp)
      refine thnF ((pg_name (X := q.cx X scope) (i := n) hN (by show X.N[n]? = _; rw [C.hN]; exact hn) hx hf).run _ s7 (L2.wipe σ [n]) H7 x u (fun σ' H' => σ' = (L2.wipe σ [n]).set n (some x) ∧ H' = H7) I7' r7 ⟨rfl, rfl⟩) fun _ s8 ⟨σ8, H8, I8, e8, eH8⟩ => ?_
      subst e8; rw [eH8] at I8
      refine wpAny_tests_nil ?_
      simp only [if_true]
      have hnl : n < (L2.wipe σ [n]).length := by
        rw [wipe_length]
        have e1 := I.len
        rw [e1, C.hN]
        exact (List.getElem?_eq_some_iff.mp hn).1
      obtain ⟨vis, v1, v2⟩ := CB.loc y (by simp)
      refine thnF ((pe_var (X := q.cx X scope) (i := n) (pos := kp) (by show X.N[n]? = _; rw [C.hN]; exact hn) vis v1 v2).run _ s8 _ H7 (fun v H' => v = x ∧ H' = H7) I8 ⟨x, List.getElem?_set_self hnl, rfl, rfl⟩) fun z s9 ⟨v9, H9, I9, r9, e9, eH9⟩ => ?_
      rw [e9] at r9; rw [eH9] at I9
      refine thnF ((pe_bl (X := q.cx X scope) (b := true)).run _ s9 _ H7 (fun v H' => v = .bl true ∧ H' = H7) I9 ⟨rfl, rfl⟩) fun z2 s10 ⟨v10, H10, I10, r10, e10, eH10⟩ => ?_
      rw [e10] at r10; rw [eH10] at I10
      cases r10
      have hH7 : H7 D = some (nd X.prog X.w D raw) := s57.hh _ _ hH5
      have hF7 : F7 D = none := s57.out _ _ hH5 hF5
      have hcnt : ((kss.take i).foldl addN []).length < sizeLine := by
        have gen : ∀ (l acc : List (List NestedKey)), (l.foldl addN acc).length ≤ acc.length + l.length := by
          intro l
          induction l with
          | nil => intro acc; exact Nat.le_refl _
          | cons x l ih => intro acc; have h1 := ih (addN acc x); have h2 := addN_length acc x; rw [List.foldl_cons, List.length_cons]; omega
        have h1 := gen (kss.take i) []
        rw [List.length_take, List.length_nil] at h1
        omega
      refine nd_true (X := q.cx X scope) CB.u9' I10 s57.sub hH7 (rn.mono s57.ff) hcnt rx (hdep _ (List.getElem_mem hlt')) r9 fun raw' s11 rn' I11 => ?_
      have et : addN ((kss.take i).foldl addN []) kss[i] = (kss.take (i + 1)).foldl addN [] := by
        rw [List.take_succ, List.getElem?_eq_getElem hlt', Option.toList_some, List.foldl_append]; rfl
      rw [et] at rn'
      have hput : ∀ b ∈ fp, ∀ o, s7.heap.get? b = some o → s11.heap.get? b = some o ∧ (upd H7 D (nd X.prog X.w D raw')) b = none := fun b hb o e =>
        let z := I11.pin (b, o) (List.mem_append_right _ (List.mem_append_right _ (mem_pinsAt hb e)))
        ⟨z.1, z.2.1⟩
      refine ⟨m, Nat.lt_succ_self _, i + 1, upd H7 D (nd X.prog X.w D raw'), F7, raw', by omega, (I11.unpinned (pins := [])).weak (by rw [List.length_set]) (fun jj v e => ?_), T.keep _ _ _ st7 fun b hb o e => (hput b hb o e).1, fun b hb => ?_, (E5.stp s57).put hF7 h0D apart, ?_, hF7, upd_same, rn'⟩
      · by_cases ej : n = jj
        · subst ej
          obtain ⟨_, hm⟩ := wipe_some e
          exact absurd (List.mem_singleton.mpr rfl) hm
        · rw [List.getElem?_set_ne ej]; exact e
      · obtain ⟨o, e, _⟩ := T.obj _ _ st7 b hb
        exact (hput b hb o e).2
      · have st := s15.trans s57
        refine ⟨st.ff, fun b u eb => ?_, fun b u eb => ?_, fun b u eb nn => st.out b u eb nn⟩
        · rw [upd_ne (ne_of_none eb hDn)]; exact st.hh b u eb
        · rw [upd_ne (ne_of_none eb hF7)]; exact st.sub b u eb
  exact codeAny_compStart_dict loop (T.self X.A 0 _ _ _ (T.keep _ _ _ st3 fun b _ o e => pushCells_keeps _ _ _ _ (Heap.get?_push_of_some _ e)) loop)
/-- as a value -/
theorem wv_dcN {y : Str} {n j : Nat} {scope : Scope} (C : Cxt X N L A G k) (ok : BlkOk X.N X.env.scope scope [(y, n)]) (hn : N[n]? = some y) (hL : okL scope [y] = true) (hA : ([y].all fun x => inKind scope [.local] x) = true)
    (h : WI X F0 H0 ρ (.Name y tp) iter fun ds => ds.length < sizeLine ∧ ∃ kss : List (List NestedKey), ds = kss.map (fun ks => .tup (ofKs ks)) ∧ (∀ ks ∈ kss, (NestedKey.tup ks).depth ≤ 8) ∧ PV (.ownN (trues (firsts kss))))
    (hs : ∀ x, foldedSetIterable iter X.env x = pure x := by intro _; rfl) :
    WV X F0 H0 ρ (.DictComp (.Name y kp) (.Constant (.bool true) j vp) [⟨.Name y tp, iter, [], 0⟩] scope pos) PV := fun σ F H Q E kk => by
  refine ⟨fun pins s I => ?_⟩
  rw [arm_eval_DictComp]
  refine dcN_core C ok hn hL hA h hs E I fun D Ca s' m H' F' kss raw hpv I' st hD hF hH hDs rn hns f => ⟨m, hns, fun h'' sb => ?_⟩
  obtain ⟨f0, f1, f2, f3, f4, f5⟩ := f
  exact ⟨.ref D, H', I'.turned (t' := s'.toks) (fun b o hb e => (sb.2 b hb).trans e) f0 f1 f3 f4 f5, rfl, kk (.ownN (trues (firsts kss))) _ F' H' hpv st ⟨D, rfl, ⟨raw, hH, hDs, rn⟩, hF, hD⟩⟩
/-- name = {..} on one line -/
theorem ws_dcN {y x : Str} {n i j : Nat} {sl : Sl} {scope : Scope} {py spos : Pos} {nx : Rho → Prop} {rt : D → Prop} (C : Cxt X N L A G k) (l : Lk N ρ x i sl) (hyl : X.env.scope.names.lookup x = some .local) (ok : BlkOk X.N X.env.scope scope [(y, n)]) (hn : N[n]? = some y) (hL : okL scope [y] = true) (hA : ([y].all fun x => inKind scope [.local] x) = true)
    (hsw : swapsWith (.DictComp (.Name y kp) (.Constant (.bool true) j vp) [⟨.Name y tp, iter, [], 0⟩] scope pos) (some (.Name x py)) spos.line X.env = pure true)
    (h : WI X F0 H0 ρ (.Name y tp) iter fun ds => ds.length < sizeLine ∧ ∃ kss : List (List NestedKey), ds = kss.map (fun ks => .tup (ofKs ks)) ∧ (∀ ks ∈ kss, (NestedKey.tup ks).depth ≤ 8) ∧ ∃ ρ', Pt ρ i (.ownN (trues (firsts kss))) ρ' ∧ nx ρ')
    (hs : ∀ x, foldedSetIterable iter X.env x = pure x := by intro _; rfl) :
    WS X F0 H0 ρ (.Assign [.Name x py] (.DictComp (.Name y kp) (.Constant (.bool true) j vp) [⟨.Name y tp, iter, [], 0⟩] scope pos) spos) nx rt := fun σ F H E0 E k1 k2 => by
  refine ⟨fun pins s I => ?_⟩
  have hN : X.N.Nodup := by rw [C.hN]; exact C.nd
  rw [exec_Assign_Name_used _ _ _ _ hsw]
  refine wpAny_bind (wpAny_standAt (wpAny_bind ?_))
  show wpAny _ X.A (do let _ ← comprehension (.DictComp (.Name y kp) (.Constant (.bool true) j vp) [⟨.Name y tp, iter, [], 0⟩] scope pos) scope X.env (firstIterPos [⟨.Name y tp, iter, [], 0⟩] pos) newDict false (eval iter X.env) (some (assign (.Name x py) X.env))) _ _ s
  refine wpAny_bind (thn (dcN_core (Qf := fun _ s' => SP X pins E0 .next s') C ok hn hL hA h hs E I fun D Ca s' m H' F' kss raw hpv I' st hD hF hH hDs rn hns f => ?_) fun _ s' hq => wpAny_pure (wpAny_pure hq))
  show wpAny _ _ (assign (.Name x py) X.env (.ref D)) _ _ _
  refine wpAny_assign_Name (store_ok2 (v := V.ref D) I' hN (by rw [C.hN]; exact l.n) (.inl hyl) rfl (fun s2 I2 ⟨a, sb, ha⟩ => ?_) (.inr hyl))
  obtain ⟨f0, f1, f2, f3, f4, f5⟩ := f
  have haC : Ca ≠ a := by
    rcases ha with z | z
    · rw [z]; exact f1
    · exact fun e => f4 x a z e.symm
  refine ⟨m, hns.sameBut sb haC, fun h3 sb3 => ?_⟩
  obtain ⟨ρ', pt, q⟩ := hpv
  have e := pt.eq
  subst e
  exact ⟨_, H', I2.turned (t' := s2.toks) (fun b o hb e => (sb3.2 b hb).trans e) f0 f1 f3 f4 f5, k1 _ _ F' H' q ((E.stp st).setV (Hs := H) (s := .ownN _) ⟨D, rfl, ⟨raw, hH, hDs, rn⟩, hF, hD⟩ E.h0 fun i x e q _ => E.live i x e q) st.ff⟩
end
end W3
end
section
set_option Elab.async false
set_option linter.all false
set_option maxRecDepth 100000
set_option maxHeartbeats 2000000
/-! LM: displays of dicts, int dicts under way, fields, draws, big products, two-fold comprehensions. -/
namespace W3
open PySem PySem.Spec PyProof.Rows L2

section
variable {X : Cx} {F0 H0 : Hp} {ρ ρ' : Rho} {N L A G : List Str} {k : Nat} {nx : Rho → Prop} {rt : D → Prop} {P : D → Prop} {PV : Sl → Prop} {PB : Bool → Prop} {a b c e e2 : Expr} {es : List Expr} {st : Stmt} {sts : List Stmt} {pos apos cpos p1 : Pos}
/-- {a: b} -/
theorem wv_disp1 (C : Cxt X N L A G k) (h : WD X F0 H0 ρ a fun da => WD X F0 H0 ρ b fun db => ∃ ks, IsT da ks ∧ PV (.ownN [(.tup ks, db)]))
    (hshape : (evalEachOpt [some a] X.env).zip ((evalEach [b] X.env).map fun v => do let x ← v; standAt pos; pure x) = [(eval a X.env, do let x ← eval b X.env; standAt pos; pure x)].map fun p => (some p.1, p.2) := by rfl) : WV X F0 H0 ρ (.Dict [some a] [b] pos) PV := fun σ F H Q E kk => by
  refine ⟨fun pins s I => ?_⟩
  have hp : H s.heap.objs.size = none := I.hok.fresh (Nat.le_refl _)
  have I1 : Inv X pins σ (upd H s.heap.objs.size (nd X.prog X.w s.heap.objs.size [])) { s with heap := s.heap.push { cls := .type "dict", data := .dict #[] } } := I.laid (t' := s.toks) (fun _ _ q => Heap.get?_push_of_some _ q) (Nat.le_refl _) (ndOk ndAt_new)
  have s0 : Stp F H F (upd H s.heap.objs.size (nd X.prog X.w s.heap.objs.size [])) := Stp.newO E.sub hp
  have hs : (s.heap.objs.size == sysModules) = false := beq_eq_false_iff_ne.mpr (Nat.ne_of_gt I.big)
  have hF : F s.heap.objs.size = none := E.sub.free hp
  rw [arm_eval_Dict, hshape, dictDisplay_pairs _ (by simp) (by simp)]
  refine wpAny_bind (wpAny_standAt (wpAny_bind (wpAny_subDictH (knd := nestedKind X.prog X.w) (Q := fun d s' => wpAny (model X.prog X.w) X.A (pure (Value.ref d)) (EP X pins σ Q) X.xe s') C.u9' (by simp) ?_)))
  refine evalPairs_cons ?_
  refine thn ((h σ F _ (fun x H1 => ∃ F1 da, RepX X F1 da x ∧ Stp F (upd H s.heap.objs.size (nd X.prog X.w s.heap.objs.size [])) F1 H1 ∧ WD X F0 H0 ρ b fun db => ∃ ks, IsT da ks ∧ PV (.ownN [(.tup ks, db)])) (E.stp s0) (fun da x F1 H1 h1 s1 r1 => ⟨F1, da, r1, s1, h1⟩)).go pins _ I1) fun u s1 ⟨x, H1, I2, rx, F1, da, r1, st1, h1⟩ => ?_
  refine wpAny_bind (thn ((h1 σ F1 H1 (fun y H2 => ∃ F2 db, RepX X F2 db y ∧ Stp F1 H1 F2 H2 ∧ ∃ ks, IsT da ks ∧ PV (.ownN [(.tup ks, db)])) (E.stp (s0.trans st1)) (fun db y F2 H2 h2 s2 r2 => ⟨F2, db, r2, s2, h2⟩)).go pins s1 I2) fun iv s2 ⟨y, H2, I3, ry, F2, db, r2, st2, ks, hk, hpv⟩ => wpAny_bind (wpAny_standAt (wpAny_pure (evalPairs_nil ?_))))
  have e := hk.of
  subst e
  have hH2 : H2 s.heap.objs.size = some (nd X.prog X.w s.heap.objs.size []) := st2.hh _ _ (st1.hh _ _ upd_same)
  have rk := r1.mono st2.ff
  have hk' := key_is I3 st2.sub _ _ _ rk rx
  obtain ⟨_, ys, rel, dd⟩ := nd_of I3 st2.sub (.inl hH2) .nil
  cases rel
  have rk0 := rk
  cases rk with
  | @tup ax vs _ hq rr =>
    cases rx
    refine ⟨[(.tup ks, ax, iv)], ⟨rfl, rfl, ⟨hk', hk.dep⟩, trivial⟩, dd, fun h' tk dd' hsb => wpAny_pure ?_⟩
    obtain ⟨o, es, ep, h1, h2, h3, h4, _, h5⟩ := dd'
    have Iw := d_write (ob := nd X.prog X.w s.heap.objs.size [(NestedKey.tup ks, ax, y)]) (t' := tk) I3 (by rw [hH2]; exact True.intro) hsb ⟨o, h1⟩ (ndOk ⟨by rw [sizeLine_eq]; show 1 ≤ _; omega, [(NestedKey.tup ks, ax, iv)], .cons ⟨rfl, rfl, ry⟩ .nil, o, es, ep, h1, h2, h3, h4, h5⟩)
    refine ⟨.ref s.heap.objs.size, _, Iw, rfl, ?_⟩
    have st := (s0.trans st1).trans st2
    have hF2 : F2 s.heap.objs.size = none := st2.out _ _ (st1.hh _ _ upd_same) (st1.out _ _ upd_same hF)
    refine kk (.ownN [(.tup ks, db)]) _ F2 _ hpv ⟨st.ff, fun b u e => ?_, fun b u e => ?_, fun b u e n => st.out b u e n⟩ ⟨s.heap.objs.size, rfl, ⟨_, upd_same, hs, .cons rk0 hk.dep r2 .nil⟩, hF2, hp⟩
    · rw [upd_ne (ne_of_none e hp)]; exact st.hh b u e
    · rw [upd_ne (ne_of_none e hF2)]; exact st.sub b u e
/-- len of a new dict -/
theorem wd_lenN {p : Pos} (C : Cxt X N L A G k) (m : ("len" : Str) ∈ G) (hm : X.mg "len" = none) (h : WV X F0 H0 ρ e fun s => ∃ xs : List (NestedKey × D), s = .ownN xs ∧ P (.int xs.length))
    (he : starEach [e] X.env = (false, eval e X.env) :: starEach [] X.env := by rfl) : WD X F0 H0 ρ (.Call (.Name "len" p) [e] [] pos) P := fun σ F H Q E kk => by
  obtain ⟨gl, _, _⟩ := C.glo _ m
  have hc : CallR X (.builtin "len") (fun xs H Q => ∃ (p : Addr) (raw : Raw), xs = [.ref p] ∧ H p = some (nd X.prog X.w p raw) ∧ (p == sysModules) = false ∧ Q (.int raw.length) H) := by
    intro pins s σ H xs us Q I r h
    obtain ⟨p, raw, rfl, hp, hs, q⟩ := h
    obtain ⟨u, rfl, rx⟩ := vals1 r
    cases rx
    obtain ⟨z, ys, rel, o, es, ep, h1, h2, h3, h4, h5⟩ := (I.hok p _ hp).1
    have hl : es.size = raw.length := (size_of_entries h4).trans (Paired.length rel).symm
    refine PyProof.Rows.call_len_slot (n := (raw.length : Nat)) ⟨o, h1, h2.1⟩ PySem.F.slot_dict_len (fun Q' hq => call_len_raw hs ⟨o, h1, h2, h3⟩ (by rw [hl]; exact hq)) (by omega) (by have := line63; omega) ?_
    exact ⟨.int raw.length, H, I.tok _, ⟨_, rfl⟩, q⟩
  refine run_pe (pe_callB hc gl hm (by decide +kernel) (pa_cons pe_run pa_nil he) (by decide) (by decide) he rfl) ?_
  refine h σ F H _ E fun s v F1 H1 h1 s1 r1 => ?_
  obtain ⟨xs, rfl, p⟩ := h1
  obtain ⟨q, rfl, ⟨raw, h2, h3, rn⟩, hf, h0⟩ := r1
  exact ⟨q, raw, rfl, h2, h3, kk _ _ F1 H1 (by rw [← rn.length]; exact p) s1 (.int _)⟩
theorem cd_lenK : CallD X (.builtin "len") (fun ds P => ∃ xs : List (Int × D), ds = [.dk xs] ∧ P (.int xs.length)) := by
  have hc : CallR X (.builtin "len") (fun xs H Q => ∃ (p : Addr) (kvs : List (Key × V)), xs = [.ref p] ∧ Rd H p (.dK kvs) ∧ Q (.int kvs.length) H) := by
    intro pins s σ H xs us Q I r h
    obtain ⟨p, kvs, rfl, hp, q⟩ := h
    obtain ⟨u, rfl, rx⟩ := vals1 r
    cases rx
    exact d_len I hp fun t s' I' => ⟨.int kvs.length, H, I', ⟨_, rfl⟩, q⟩
  refine ⟨_, hc, fun F H vs ds P Q s r h kk => ?_⟩
  obtain ⟨xs, rfl, p⟩ := h
  obtain ⟨v, rfl, r1⟩ := reps1 r; clear r
  cases r1 with
  | @dk a o kvs _ hq r => exact ⟨a, kvs, rfl, .inr ⟨o, s _ _ hq⟩, kk _ _ F H (by rw [← r.length]; exact p) (Stp.refl s) (.int _)⟩
/-! ### int dicts -/
/-- dict([]) -/
theorem wv_dict0 {p p2 : Pos} (C : Cxt X N L A G k) (m : ("dict" : Str) ∈ G) (hm : X.mg "dict" = none) (q : PV (.ownK []))
    (he : starEach [.List [] p2] X.env = (false, eval (.List [] p2) X.env) :: starEach [] X.env := by rfl) : WV X F0 H0 ρ (.Call (.Name "dict" p) [.List [] p2] [] pos) PV := fun σ F H Q E kk => by
  obtain ⟨gl, _, _⟩ := C.glo _ m
  refine run_pe (pe_callTy (call_dictP C.calm) gl hm (by decide +kernel) (pa_cons (pe_lst pa_nil) pa_nil he) (by decide) (by decide) he rfl) ?_
  refine ⟨Nat.zero_le _, fun l hl => ⟨l, [], [], rfl, SqL.of upd_same, .nil, fun p hp => ?_⟩⟩
  have s1 : Stp F H F (upd H l (.lst [])) := Stp.newO E.sub hl
  have s2 := Stp.newO (o := .dK []) s1.sub hp
  exact kk (.ownK []) _ F _ q (s1.trans s2) ⟨p, rfl, ⟨[], upd_same, .nil⟩, s1.sub.free hp, s1.free hp⟩
theorem RepK.snoc {Pg : Program} {w : World} {K : PySem.W.Frag} {F : Hp} {i : Int} {d : D} {v : V} (h : Rep Pg w K F d v) : ∀ {xs : List (Int × D)} {kvs : List (Key × V)}, RepK Pg w K F xs kvs → RepK Pg w K F (xs ++ [(i, d)]) (kvs ++ [(.inl i, v)])
  | _, _, .nil => .cons h .nil
  | _, _, .cons h' t => .cons h' (RepK.snoc h t)
/-- x[e] = e2, a new key -/
theorem ws_putK {x : Str} {n : Nat} {xs : List (Int × D)} {kp : Pos} (C : Cxt X N L A G k) (l : Lk N ρ x n (.ownK xs)) (m : x ∈ L) (h : WD X F0 H0 ρ e2 fun d => WD X F0 H0 ρ e fun d1 => ∃ i, d1 = .int i ∧ dkGet xs i = none ∧ xs.length < sizeLine ∧ ∃ ρ', Pt ρ n (.ownK (xs ++ [(i, d)])) ρ' ∧ nx ρ')
    (hsw : swapsWith e2 (some (.Subscript (.Name x p1) e kp)) pos.line X.env = pure false := by rfl) :
    WS X F0 H0 ρ (.Assign [.Subscript (.Name x p1) e kp] e2 pos) nx rt := fun σ F H E0 E k1 k2 => by
  refine run_ps (ps_dput C.u1 (wd_ref C l m rfl) pe_run pe_run hsw) ?_
  obtain ⟨p, h1, ⟨kvs, h2, r⟩, h3, h4⟩ := E.own n _ l.r rfl
  refine h σ F H _ E fun d v F1 H1 pp st1 rd => ⟨.ref p, h1, ?_⟩
  refine pp σ F1 H1 _ (E.stp st1) fun d1 v1 F2 H2 pp2 st2 rd1 => ?_
  obtain ⟨i, rfl, hno, hz, ρ2, pt, q⟩ := pp2
  have e := pt.eq
  subst e
  cases rd1
  have st := st1.trans st2
  have hH2 : H2 p = some (.dK kvs) := st.hh _ _ h2
  have r2 := r.mono st.ff
  have hv : valV kvs (.inl i) = none := by
    rcases dkGet_rep (i := i) r2 with ⟨_, e2⟩ | ⟨d', v', e1, _⟩
    · exact e2
    · rw [e1] at hno; cases hno
  refine ⟨p, _, rfl, DPut.k (k := .inl i) hH2 (by rw [← r2.length]; exact hz), k1 _ _ F2 _ q ?_ st.ff⟩
  rw [L2.putK_new _ hv]
  exact (E.stp st).mut h1 l.r rfl (st.out _ _ h2 h3) h4 rfl ⟨_, upd_same, r2.snoc (rd.mono st2.ff)⟩
theorem Fm.frzJ {Pg : Program} {w : World} {K : PySem.W.Frag} {F H : Hp} {σ : L2.St} (E : Fm Pg w K F0 H0 ρ σ F H) {n : Nat} {xs : List (Int × D)} (hn : ρ[n]? = some (.ownK xs)) : ∃ p kvs, σ[n]? = some (some (V.ref p)) ∧ F p = none ∧ H0 p = none ∧ H p = some (.dK kvs) ∧ Fm Pg w K F0 H0 (ρ.set n (.d (.dj xs))) σ (upd F p (.dK kvs)) H := by
  obtain ⟨p, h1, ⟨kvs, h2, r⟩, h3, h4⟩ := E.own n _ hn rfl
  have sm : Same F (upd F p (.dK kvs)) := fun b u e => by rw [upd_ne (ne_of_none e h3)]; exact e
  have q := E.freeze (o := .dK kvs) h1 hn rfl h3 h4 (.dj upd_same (r.mono sm))
  rw [upd_eta h2] at q
  exact ⟨p, kvs, h1, h3, h4, h2, q⟩
theorem wt_thawK {n : Nat} {xs : List (Int × D)} (l : Pt ρ n (.ownK xs) ρ) (p : Pt ρ n (.d (.dj xs)) ρ') (h : WT X F0 H0 ρ' e PB) : WT X F0 H0 ρ e PB := fun σ F H Q E kk => by
  have e := p.eq
  subst e
  obtain ⟨p, kvs, h1, h2, h3, h4, E'⟩ := E.frzJ l.get
  exact h σ _ H Q E' fun b F' H' pb s => kk b F H' pb (Fm.thaw_back E.sub h2 h4 s)
theorem od_inJ (C : Cxt X N L A G k) : OpD X (compareOp .In) (fun a b P => ∃ i xs, a = .int i ∧ b = .dj xs ∧ P (.bl (dkGet xs i).isSome)) :=
  ⟨_, op_inDK C.u1, fun F H x y dx dy P Q s rx ry h kk => by
    obtain ⟨i, xs, rfl, rfl, p⟩ := h
    cases rx
    cases ry with
    | @dj a kvs _ hq r =>
      rcases dkGet_rep (i := i) r with ⟨e1, e2⟩ | ⟨d', v, e1, e2, r3⟩
      · rw [e1] at p
        exact ⟨a, none, rfl, .inl ⟨kvs, .inl i, .inl (s _ _ hq), rfl, e2.symm⟩, kk _ _ F H p (Stp.refl s) (.bl _)⟩
      · rw [e1] at p
        exact ⟨a, some v, rfl, .inl ⟨kvs, .inl i, .inl (s _ _ hq), rfl, e2.symm⟩, kk _ _ F H p (Stp.refl s) (.bl _)⟩⟩
/-- list(x.values()) -/
def valsO (p d : Addr) : HO := .ext fun h => h.IsValuesView p d
theorem wd_valsJ {p a1 c1 : Pos} (C : Cxt X N L A G k) (m : ("list" : Str) ∈ G) (hm : X.mg "list" = none) (h : WD X F0 H0 ρ e fun d => ∃ xs, d = .dj xs ∧ P (.lst (xs.map (·.2))))
    (hbase : attributeBase e "values" X.env (eval e X.env) = eval e X.env := by rfl) (hline : (a1.endLine == c1.line) = true := by rfl)
    (he : starEach [.Call (.Attribute e "values" a1) [] [] c1] X.env = (false, eval (.Call (.Attribute e "values" a1) [] [] c1) X.env) :: starEach [] X.env := by rfl) :
    WD X F0 H0 ρ (.Call (.Name "list" p) [.Call (.Attribute e "values" a1) [] [] c1] [] pos) P := fun σ F H Q E kk => by
  obtain ⟨gl, _, _⟩ := C.glo _ m
  have hv : MtR X "dict.values" (fun x xs H Q => ∃ (a : Addr) (kvs : List (Key × V)), x = .ref a ∧ xs = [] ∧ H a = some (.dK kvs) ∧ ∀ p, H p = none → Q (.ref p) (upd H p (valsO p a))) := by
    intro pins s σ H x xs v us Q I rx rxs h
    obtain ⟨a, kvs, rfl, rfl, ha, q⟩ := h
    cases rx
    cases rxs
    obtain ⟨z, hd, vs, rel, dd⟩ := dk_of I.hok ha
    refine call_meetsIn PySem.F.slot_dict_values dd.typeIs PySem.F.entry_dict_values (PySem.F.args_dict_values_1 _) (meets_dict_values (mixKind X.prog X.w) a hd) ⟨⟨vs, dd⟩, ?_⟩
    have e : (s.heap.push { cls := .type "dict_values", data := .fields #[.ref a] }).get? s.heap.objs.size = some { cls := .type "dict_values", data := .fields #[.ref a] } := Heap.get?_push_size _ rfl
    exact ⟨.ref s.heap.objs.size, upd H s.heap.objs.size (valsO s.heap.objs.size a), I.laid (t' := s.toks) (fun b u e => Heap.get?_push_of_some _ e) (Nat.le_refl _) ⟨⟨_, e, rfl, rfl⟩, ⟨_, e⟩, fun h1 h2 x k => let ⟨o, ho, r⟩ := x; ⟨o, k o ho, r⟩⟩, rfl, q _ (I.hok.fresh (Nat.le_refl _))⟩
  have hl : CallR X (.type "list") (fun xs H Q => ∃ (p a : Addr) (kvs : List (Key × V)), xs = [.ref p] ∧ H p = some (valsO p a) ∧ H a = some (.dK kvs) ∧ ∀ q, H q = none → Q (.ref q) (upd H q (.lst (kvs.map (·.2))))) := by
    intro pins s σ H xs us Q I r h
    obtain ⟨p, a, kvs, rfl, hp, ha, q⟩ := h
    obtain ⟨u, rfl, rx⟩ := vals1 r
    cases rx
    obtain ⟨z, hd, vs, rel, o, es, ep, h1, h2, h3, r3⟩ := I.hok a _ ha
    have hvw : s.heap.IsValuesView p a := (I.hok p _ hp).1
    refine PySem.W.kdl_call (PySem.W.kdl_values (knd := mixKind X.prog X.w) (kvs := vs) (ep := ep)) (I.ok.hd C.calm) ⟨hvw, o, es, h1, h2, h3, r3⟩ (by rw [← KV.length rel]; exact z) fun h' tk acc c' hk hD hacc => ?_
    have hv : Vals (kvs.map (·.2)) acc.toList := by
      have gen : ∀ (l : List Value) (xs : List V), l.length = xs.length → (∀ (j : Nat) (v : Value), l[j]? = some v → ∃ x, xs[j]? = some x ∧ RelV x v) → Vals xs l := by
        intro l
        induction l with
        | nil => intro vs h _; cases vs with
          | nil => exact .nil
          | cons _ _ => cases h
        | cons y l ih =>
          intro vs h hj
          cases vs with
          | nil => cases h
          | cons x vs =>
            obtain ⟨x', e1, r1⟩ := hj 0 y rfl
            cases e1
            exact .cons r1 (ih vs (by simpa using h) fun j v e => by simpa using hj (j + 1) v (by simpa using e))
      refine gen _ _ (by rw [Array.length_toList, hacc.1, List.length_map]; exact (KV.length rel).symm) fun j v e => ?_
      obtain ⟨kx, hkx⟩ := hacc.2 j v (by rw [← Array.getElem?_toList]; exact e)
      have hlt : j < kvs.length := by rw [KV.length rel]; exact (List.getElem?_eq_some_iff.mp hkx).1
      obtain ⟨u, hu, ru⟩ := kv_get rel (List.getElem?_eq_getElem hlt)
      rw [hkx] at hu
      cases hu
      exact ⟨kvs[j].2, by rw [List.getElem?_map, List.getElem?_eq_getElem hlt]; rfl, ru⟩
    exact ⟨.ref s.heap.objs.size, _, I.laid (t' := tk) hk (Nat.le_refl _) (show ObjOk X.prog X.w _ _ _ (.lst _) from ⟨by rw [List.length_map]; exact z, acc.toList, c', hv, by rw [Array.toArray_toList]; exact hD⟩), rfl, q _ (I.hok.fresh (Nat.le_refl _))⟩
  refine run_pe (pe_callTy hl gl hm (by decide +kernel) (pa_cons (pe_bm0 PySem.F.plainAttrs_dict PySem.F.slot_dict_values PySem.F.type_dict_values hv pe_run hbase hline) pa_nil he) (by decide) (by decide) he rfl) ?_
  refine h σ F H _ E fun d v F1 H1 h1 s1 r1 => ?_
  obtain ⟨xs, rfl, pp⟩ := h1
  cases r1 with
  | @dj a kvs _ hq r =>
    refine ⟨.inr (.inr (.inl ⟨rfl, .inl ⟨kvs, s1.sub _ _ hq⟩⟩)), a, kvs, rfl, rfl, s1.sub _ _ hq, fun q hq0 => ?_⟩
    have s2 := Stp.newO (o := valsO q a) s1.sub hq0
    refine ⟨q, a, kvs, rfl, upd_same, s2.hh _ _ (s1.sub _ _ hq), fun l hl0 => ?_⟩
    have s3 := Stp.new (o := .lst (kvs.map (·.2))) s2.sub hl0
    refine kk _ _ _ _ pp ((s1.trans s2).trans s3) (.lst upd_same ?_)
    have gen : ∀ {xs : List (Int × D)} {kvs : List (Key × V)}, RepK X.prog X.w X.K F1 xs kvs → RepsX X F1 (xs.map (·.2)) (kvs.map (·.2)) := by
      intro xs kvs r
      induction xs generalizing kvs with
      | nil => cases r; exact .nil
      | cons x xs ih => cases r with
        | cons h t => exact .cons h (ih t)
    exact (gen r).mono s3.ff
/-! ### fields -/
theorem RepF.put {Pg : Program} {w : World} {K : PySem.W.Frag} {F : Hp} {f : Str} {d : D} {v : V} (h : Rep Pg w K F d v) : ∀ {xs : List (Str × D)} {fs : List (Str × V)}, RepF Pg w K F xs fs → xs.lookup f = none → RepF Pg w K F (xs ++ [(f, d)]) (putF f v fs)
  | _, _, .nil, _ => .cons h .nil
  | _, _, @RepF.cons _ _ _ _ g d' v' xs fs h' t, e => by
    rw [List.lookup_cons] at e
    cases hg : f == g with
    | true => rw [hg] at e; cases e
    | false =>
      rw [hg] at e
      have ne : ¬ g = f := fun z => by rw [z] at hg; simp at hg
      show RepF Pg w K F ((g, d') :: (xs ++ [(f, d)])) (if g = f then (g, v) :: fs else (g, v') :: putF f v fs)
      rw [if_neg ne]
      exact .cons h' (RepF.put h t e)
/-- self.f = e -/
theorem ws_fld {x f : Str} {n : Nat} {ad Cl : Addr} {fs : List (Str × D)} {fp : Pos} (C : Cxt X N L A G k) (l : Lk N ρ x n (.ownI ad Cl fs)) (m : x ∈ L) (hc : Cls X.K Cl) (hn : NoAttr X.K Cl f)
    (h : WD X F0 H0 ρ e fun d => fs.lookup f = none ∧ fs.length < 1000 ∧ ∃ ρ', Pt ρ n (.ownI ad Cl (fs ++ [(f, d)])) ρ' ∧ nx ρ') (hsw : swapsWith e (some (.Attribute (.Name x p1) f fp)) pos.line X.env = pure false := by rfl) :
    WS X F0 H0 ρ (.Assign [.Attribute (.Name x p1) f fp] e pos) nx rt := fun σ F H E0 E k1 k2 => by
  refine run_ps (ps_fld (wd_ref C l m rfl) pe_run hsw) ?_
  obtain ⟨p, h1, ⟨rfl, dx, fvs, h2, r⟩, h3, h4⟩ := E.own n _ l.r rfl
  refine h σ F H _ E fun d v F1 H1 pp st rd => ?_
  obtain ⟨hno, hz, ρ2, pt, q⟩ := pp
  have e := pt.eq
  subst e
  have hH1 : H1 p = some (.ins Cl dx fvs) := st.hh _ _ h2
  refine ⟨.ref p, h1, p, Cl, dx, fvs, rfl, hH1, hc, hn, by rw [← r.length]; exact hz, k1 _ _ F1 _ q ?_ st.ff⟩
  exact (E.stp st).mut h1 l.r rfl (st.out _ _ h2 h3) h4 rfl ⟨rfl, _, _, upd_same, (r.mono st.ff).put rd hno⟩
/-! ### products of any size -/
theorem od_mulX : OpD X (binaryOp .Mult) (fun a b P => ∃ i j, a = .int i ∧ b = .int j ∧ CMulX i j ∧ P (.int (i * j))) := od_IC op_mulX
end

/-! ### draws -/
section
variable {X : Cx} {pins : List (Addr × Obj)} {σ : L2.St} {H : Hp} {s : Shared} {p : Addr}
theorem Inv.swap {o : HO} (I : Inv X pins σ H s) (mu : Mut (H p)) (heo : ∃ u, s.heap.get? p = some u) (new : ObjOk X.prog X.w (upd H p o) s.heap p o) : Inv X pins σ (upd H p o) s :=
  I.write (x := p) (e := p) (t' := s.toks) (h' := s.heap) mu (.inl rfl) (fun b u _ q => q) heo new
/-- the list that a draws' list is -/
theorem Inv.open (I : Inv X pins σ H s) (h : H p = some (anyL p)) : ∃ ns : List Int, Inv X pins σ (upd H p (.lst (ns.map V.int))) s := by
  obtain ⟨⟨ns, its, n, z, r, e⟩, _⟩ := I.hok p _ h
  exact ⟨ns, Inv.swap I (by rw [h]; exact True.intro) ⟨_, e⟩ ⟨by rw [List.length_map]; exact z, its, n, r, e⟩⟩
theorem Inv.close {ns : List Int} (I : Inv X pins σ H s) (h : H p = some (.lst (ns.map V.int))) : Inv X pins σ (upd H p (anyL p)) s := by
  obtain ⟨z, its, n, r, e⟩ := I.hok p _ h
  rw [List.length_map] at z
  exact Inv.swap I (by rw [h]; exact True.intro) ⟨_, e⟩ ⟨⟨ns, its, n, z, r, e⟩, ⟨_, e⟩, fun h1 h2 x k => let ⟨a1, a2, a3, a4, a5, a6⟩ := x; ⟨a1, a2, a3, a4, a5, k _ a6⟩⟩
end
/-- the list of draws at p is opened for the time of e -/
def tOpen (p : Addr) (t : TE) : TE := fun σ H Q => H p = some (anyL p) ∧ ∀ ns : List Int, t σ (upd H p (.lst (ns.map V.int))) fun v H' => ∃ ms : List Int, H' p = some (.lst (ms.map V.int)) ∧ Q v (upd H' p (anyL p))
theorem pe_open {X : Cx} {e : Expr} {t : TE} (p : Addr) (h : PE X e t) : PE X e (tOpen p t) := by
  refine ⟨fun pins s σ H Q I hw => ?_⟩
  obtain ⟨hp, hw⟩ := hw
  obtain ⟨ns, I1⟩ := Inv.open I hp
  refine thn (h.run pins s σ _ _ I1 (hw ns)) fun v s1 ⟨x, H1, I2, r, ms, e2, q⟩ => ?_
  exact ⟨x, _, Inv.close I2 e2, r, q⟩
section
variable {X : Cx} {F0 H0 : Hp} {ρ ρ' : Rho} {N L A G : List Str} {k : Nat} {nx : Rho → Prop} {rt : D → Prop} {sts : List Stmt}
/-- an own list of ints becomes a list of draws -/
theorem wb_draws {n : Nat} {is : List Int} (l : Pt ρ n (.own (is.map D.int)) ρ) (p : Pt ρ n (.d .dr) ρ') (h : WB X F0 H0 ρ' sts nx rt) : WB X F0 H0 ρ sts nx rt := fun σ F H E0 E k1 k2 => by
  refine ⟨fun pins s I => ?_⟩
  have e := p.eq
  subst e
  obtain ⟨p, h1, ⟨vs, h2, r⟩, h3, h4⟩ := E.own n _ l.get rfl
  have ev := r.ints
  subst ev
  have sm : Same F (upd F p (anyL p)) := fun b u e => by rw [upd_ne (ne_of_none e h3)]; exact e
  have E' := E.freeze (o := anyL p) h1 l.get rfl h3 h4 (.dr upd_same)
  exact (h σ _ _ E0 E' (fun ρ2 σ2 F2 H2 p2 E2 s2 => k1 ρ2 σ2 F2 H2 p2 E2 (sm.trans s2)) k2).go pins s (Inv.close I h2)
end
end W3
end
section
set_option Elab.async false
set_option linter.all false
set_option maxRecDepth 100000
set_option maxHeartbeats 2000000
/-! LN: a def keeps its contract, by its body. -/
namespace W3
open PySem PySem.Spec PyProof.Rows L2

/-- where a def's body runs -/
structure Dq where
  f : Addr
  cdv : Value
  A : Around
  outer : List Env
  s : Shared
  H : Hp
  E : XK
/-- what all bodies are over -/
structure Md where
  P : Program
  w : World
  K : PySem.W.Frag
  mg : Str → Option Value
  base : Heap
abbrev Md.cx (M : Md) (N : List Str) (qual : Str) (sc : Scope) (q : Dq) : Cx := (cxOf CX0 M.P M.w M.K M.mg M.base N qual sc q.f q.cdv q.A q.outer q.s q.H q.E).nox
abbrev Md.Fn (M : Md) (x : Str) (k n : Nat) (C : Ct) : Prop := FnT M.P M.w M.K M.mg M.base x k n C
/-- the frame at the entry -/
def slots0 (ds : List D) (m : Nat) : Rho := ds.map Sl.d ++ List.replicate m .no
theorem fm0 {P : Program} {w : World} {K : PySem.W.Frag} {F H : Hp} {ds : List D} {vs : List V} {N : List Str} (s : Same F H) (r : Reps P w K F ds vs) : Fm P w K F H (slots0 ds (N.length - vs.length)) (L2.start N vs) F H := by
  have e := r.length
  refine ⟨s, Same.refl _, Same.refl _, fun _ _ _ n => n, ?_, fun i x h => ?_, fun i x h q => ?_, fun i j x y p ne h1 h2 q1 q2 => ?_⟩
  · unfold slots0 L2.start
    rw [List.length_append, List.length_append, List.length_map, List.length_map, List.length_replicate, List.length_replicate, e]
  · unfold slots0 at h
    unfold L2.start
    by_cases hi : i < ds.length
    · rw [List.getElem?_append_left (by rw [List.length_map]; exact hi), List.getElem?_map] at h
      obtain ⟨d, hd, hx⟩ := Option.map_eq_some_iff.mp h
      cases hx
      obtain ⟨v, hv, rv⟩ := r.get hd
      exact ⟨v, by rw [List.getElem?_append_left (by rw [List.length_map]; omega), List.getElem?_map, hv]; rfl, rv⟩
    · rw [List.getElem?_append_right (by rw [List.length_map]; omega), List.getElem?_replicate] at h
      split at h <;> cases h
  · exfalso
    unfold slots0 at h
    by_cases hi : i < ds.length
    · rw [List.getElem?_append_left (by rw [List.length_map]; exact hi), List.getElem?_map] at h
      obtain ⟨d, hd, hx⟩ := Option.map_eq_some_iff.mp h
      subst hx; cases q
    · rw [List.getElem?_append_right (by rw [List.length_map]; omega), List.getElem?_replicate] at h
      split at h
      · cases h; cases q
      · cases h
  · exfalso
    unfold slots0 at h1
    by_cases hi : i < ds.length
    · rw [List.getElem?_append_left (by rw [List.length_map]; exact hi), List.getElem?_map] at h1
      obtain ⟨d, hd, hx⟩ := Option.map_eq_some_iff.mp h1
      subst hx; cases q1
    · rw [List.getElem?_append_right (by rw [List.length_map]; omega), List.getElem?_replicate] at h1
      split at h1
      · cases h1; cases q1
      · cases h1
/-- a def by its body -/
theorem fn_ok {M : Md} {x qual : Str} {pa : Arguments} {bd : List Stmt} {sc : Scope} {dvs : List V} {kws : List (Str × V)} {f : Addr} {fd : FuncData} {N ps : List Str} {k n : Nat} {C : Ct} (L As G : List Str) (Fd : FunD M.K x qual pa bd sc dvs kws f fd) (S : FnScope N ps sc) (hn : ps.length = n) (hL : okL sc L = true) (hA : okA sc As = true) (hG : okG sc G = true)
    (hb : ∀ (q : Dq) (F0 H0 : Hp), Cxt (M.cx N qual sc q) N L As G k → ∀ (ds : List D) (R : D → Prop), ds.length = n → C ds R → WB (M.cx N qual sc q) F0 H0 (slots0 ds (N.length - n)) bd (fun _ => R .non) R) : FnOk M.P M.w M.K M.mg M.base CX0 (k + 1) f fd ps (spC M.P M.w M.K n C) := by
  refine Fd.ok S (fun vs H Q E h => ?_) fun cdv A outer s H vs Q E hr h => ?_
  · obtain ⟨F, ds, R, sm, r, hl, _⟩ := h
    rw [← r.length, hl, hn]
  · obtain ⟨F, ds, R, sm, r, hl, hc, kk⟩ := h
    have q : Dq := ⟨f, cdv, A, outer, s, H, E⟩
    have C' : Cxt (M.cx N qual sc ⟨f, cdv, A, outer, s, H, E⟩) N L As G k := cxt_def rfl S.nd rfl rfl rfl hr rfl hL hA hG
    refine ⟨_, (pss_run (X := (cxOf CX0 M.P M.w M.K M.mg M.base N qual sc f cdv A outer s H E).nox)).nox, ?_⟩
    have hv : vs.length = n := by rw [← r.length]; exact hl
    have E0 := fm0 (N := N) sm r
    rw [hv] at E0
    exact hb ⟨f, cdv, A, outer, s, H, E⟩ F H C' ds R hl hc (L2.start N vs) F H _ E0 (fun ρ' σ' F' H' p E' _ => kk .non _ F' H' p E'.fin .non) (fun d v F' H' p st rd => kk d v F' H' p st rd)
end W3
end
section
set_option Elab.async false
set_option linter.all false
set_option maxRecDepth 100000
/-! MA: the plain model: tables, standings, seams; no program in sight. -/
namespace Pl

/-- a table: classes, rows (a sign, its two parts), closed signs -/
structure Plan where
  cls : List Nat
  rows : List (Nat × Nat × Nat)
  shut : List Nat
abbrev Stg := Option Nat × List Nat
abbrev Seam := Stg × Stg × List Nat

namespace Plan
variable (p : Plan)
def n : Nat := p.cls.length
def c (x : Nat) : Nat := p.cls.getD x 0
/-- a sign's two parts -/
def two (s : Nat) : Option (Nat × Nat) := (p.rows.find? fun r => decide (r.1 = s)).map (·.2)
structure Ok : Prop where
  pos : 0 < p.cls.length
  few : p.cls.length ≤ 4
  cl : ∀ x ∈ p.cls, x ≤ 2
  up : (p.rows.map (·.1)).Pairwise (· < ·)
  row : ∀ r ∈ p.rows, r.1 < p.cls.length ∧ r.2.1 < r.1 ∧ r.2.2 < r.1 ∧ p.c r.1 = 0 ∧ p.c r.2.1 = 0
  apart : (p.rows.map (·.2)).Nodup
  sup : p.shut.Pairwise (· < ·)
  sin : ∀ x ∈ p.shut, x ∈ p.rows.map (·.1)
def bareF : Nat → Nat → List Nat
  | 0, s => [s]
  | f + 1, s => match p.two s with
    | none => [s]
    | some t => bareF f t.1 ++ bareF f t.2
def bare (s : Nat) : List Nat := p.bareF (s + 1) s
def joined (a b : Nat) : Option Nat := (p.rows.find? fun r => decide (r.2 = (a, b)) && !decide (r.1 ∈ p.shut)).map (·.1)
def isFree (kept : List Nat) (m : Nat) : Bool := match kept.getLast? with
  | none => true
  | some k => decide (p.c k < p.c m)
def hstep (j : Bool) (q : Nat × List Nat) (m : Nat) : Nat × List Nat :=
  match (if j then p.joined q.1 m else none) with
  | some l => if p.isFree q.2 m then (l, q.2) else (q.1, q.2 ++ [m])
  | none => (q.1, q.2 ++ [m])
def held (j : Bool) (s : Stg) : List Nat := match s.1 with
  | none => s.2
  | some b => let q := s.2.foldl (p.hstep j) (b, []); q.1 :: q.2
def withMark (marks : List Nat) (m : Nat) : List Nat :=
  let at_ := (marks.filter fun x => decide (p.c x ≤ p.c m)).length
  marks.take at_ ++ m :: marks.drop at_
def readBare (j : Bool) (s : Stg) (x : Nat) : Option (Stg × List Nat) :=
  if 0 < p.c x then (if s.2.length = 2 then none else some ((s.1, p.withMark s.2 x), []))
  else
    let h := p.held j s
    match (if j && decide (h.length = 1) && s.1.isSome then p.joined (h.headD 0) x else none) with
    | some l => some ((some l, []), [])
    | none => some ((some x, []), h)
def readGo (j : Bool) : Stg → List Nat → List Nat → Option (Stg × List Nat)
  | s, found, [] => some (s, found)
  | s, found, o :: os => match p.readBare j s o with
    | none => none
    | some r => readGo j r.1 (found ++ r.2) os
def readSign (j : Bool) (s : Stg) (x : Nat) : Option (Stg × List Nat) := p.readGo j s [] (p.bare x)
def first : Stg := (none, [])
def plainGo (j : Bool) : Stg → List Nat → List Nat → Option (List Nat)
  | s, found, [] => some (found ++ p.held j s)
  | s, found, x :: xs => match p.readSign j s x with
    | none => none
    | some r => plainGo j r.1 (found ++ r.2) xs
def madePlain (j : Bool) (xs : List Nat) : Option (List Nat) := p.plainGo j first [] xs
/-- the run of marks behind a sign's bares; none where it grows too long -/
def runGo : Nat → List Nat → Option Nat
  | r, [] => some r
  | r, o :: os => let r' := if 0 < p.c o then r + 1 else 0
    if 2 < r' then none else runGo r' os
def wrongGo : Nat → Nat → List Nat → Option Nat
  | _, _, [] => none
  | i, r, x :: xs => if x < p.n then (match p.runGo r (p.bare x) with
    | none => some i
    | some r' => wrongGo (i + 1) r' xs) else some i
def wrongAt (xs : List Nat) : Option Nat := p.wrongGo 0 0 xs
def isEven (j : Bool) (m : Seam) : Bool := decide (p.held j m.1 = m.2.2 ++ p.held j m.2.1)
/-- none: none where the whole can't go on; some none: it shows -/
def behind (j : Bool) (m : Seam) (x : Nat) : Option (Option Seam) :=
  match p.readSign j m.1 x with
  | none => none
  | some f => match p.readSign j m.2.1 x with
    | none => some none
    | some g =>
      let late := m.2.2 ++ g.2
      if late.take f.2.length = f.2 then
        let r : Seam := (f.1, g.1, late.drop f.2.length)
        if p.isEven j r then some (some r) else some none
      else some none
def cutAt (j : Bool) (s : Stg) : Seam := (s, first, p.held j s)
end Plan
end Pl
end
section
set_option Elab.async false
set_option linter.all false
set_option maxRecDepth 100000
set_option maxHeartbeats 2000000
/-! LO: the model as data, names for places, facts about the module. -/
namespace W3
open PySem PySem.Spec PyProof.Rows L2

theorem lk0 {N : List Str} {ρ : Rho} {x : Str} {s : Sl} : Lk (x :: N) (s :: ρ) x 0 s := .z
theorem pt0 {ρ : Rho} {s t : Sl} : Pt (s :: ρ) 0 t (t :: ρ) := .z
theorem mm0 {l : List Str} {x : Str} : x ∈ x :: l := (.head _)
theorem lk1 {N : List Str} {ρ : Rho} {x : Str} {s : Sl} {z0 : Str} {y0 : Sl} : Lk (z0 :: x :: N) (y0 :: s :: ρ) x 1 s := (.s .z)
theorem pt1 {ρ : Rho} {s t : Sl} {y0 : Sl} : Pt (y0 :: s :: ρ) 1 t (y0 :: t :: ρ) := (.s .z)
theorem mm1 {l : List Str} {x : Str} {z0 : Str} : x ∈ z0 :: x :: l := (.tail _ (.head _))
theorem lk2 {N : List Str} {ρ : Rho} {x : Str} {s : Sl} {z0 z1 : Str} {y0 y1 : Sl} : Lk (z0 :: z1 :: x :: N) (y0 :: y1 :: s :: ρ) x 2 s := (.s (.s .z))
theorem pt2 {ρ : Rho} {s t : Sl} {y0 y1 : Sl} : Pt (y0 :: y1 :: s :: ρ) 2 t (y0 :: y1 :: t :: ρ) := (.s (.s .z))
theorem mm2 {l : List Str} {x : Str} {z0 z1 : Str} : x ∈ z0 :: z1 :: x :: l := (.tail _ (.tail _ (.head _)))
theorem lk3 {N : List Str} {ρ : Rho} {x : Str} {s : Sl} {z0 z1 z2 : Str} {y0 y1 y2 : Sl} : Lk (z0 :: z1 :: z2 :: x :: N) (y0 :: y1 :: y2 :: s :: ρ) x 3 s := (.s (.s (.s .z)))
theorem pt3 {ρ : Rho} {s t : Sl} {y0 y1 y2 : Sl} : Pt (y0 :: y1 :: y2 :: s :: ρ) 3 t (y0 :: y1 :: y2 :: t :: ρ) := (.s (.s (.s .z)))
theorem mm3 {l : List Str} {x : Str} {z0 z1 z2 : Str} : x ∈ z0 :: z1 :: z2 :: x :: l := (.tail _ (.tail _ (.tail _ (.head _))))
theorem lk4 {N : List Str} {ρ : Rho} {x : Str} {s : Sl} {z0 z1 z2 z3 : Str} {y0 y1 y2 y3 : Sl} : Lk (z0 :: z1 :: z2 :: z3 :: x :: N) (y0 :: y1 :: y2 :: y3 :: s :: ρ) x 4 s := (.s (.s (.s (.s .z))))
theorem pt4 {ρ : Rho} {s t : Sl} {y0 y1 y2 y3 : Sl} : Pt (y0 :: y1 :: y2 :: y3 :: s :: ρ) 4 t (y0 :: y1 :: y2 :: y3 :: t :: ρ) := (.s (.s (.s (.s .z))))
theorem mm4 {l : List Str} {x : Str} {z0 z1 z2 z3 : Str} : x ∈ z0 :: z1 :: z2 :: z3 :: x :: l := (.tail _ (.tail _ (.tail _ (.tail _ (.head _)))))
theorem lk5 {N : List Str} {ρ : Rho} {x : Str} {s : Sl} {z0 z1 z2 z3 z4 : Str} {y0 y1 y2 y3 y4 : Sl} : Lk (z0 :: z1 :: z2 :: z3 :: z4 :: x :: N) (y0 :: y1 :: y2 :: y3 :: y4 :: s :: ρ) x 5 s := (.s (.s (.s (.s (.s .z)))))
theorem pt5 {ρ : Rho} {s t : Sl} {y0 y1 y2 y3 y4 : Sl} : Pt (y0 :: y1 :: y2 :: y3 :: y4 :: s :: ρ) 5 t (y0 :: y1 :: y2 :: y3 :: y4 :: t :: ρ) := (.s (.s (.s (.s (.s .z)))))
theorem mm5 {l : List Str} {x : Str} {z0 z1 z2 z3 z4 : Str} : x ∈ z0 :: z1 :: z2 :: z3 :: z4 :: x :: l := (.tail _ (.tail _ (.tail _ (.tail _ (.tail _ (.head _))))))
theorem lk6 {N : List Str} {ρ : Rho} {x : Str} {s : Sl} {z0 z1 z2 z3 z4 z5 : Str} {y0 y1 y2 y3 y4 y5 : Sl} : Lk (z0 :: z1 :: z2 :: z3 :: z4 :: z5 :: x :: N) (y0 :: y1 :: y2 :: y3 :: y4 :: y5 :: s :: ρ) x 6 s := (.s (.s (.s (.s (.s (.s .z))))))
theorem pt6 {ρ : Rho} {s t : Sl} {y0 y1 y2 y3 y4 y5 : Sl} : Pt (y0 :: y1 :: y2 :: y3 :: y4 :: y5 :: s :: ρ) 6 t (y0 :: y1 :: y2 :: y3 :: y4 :: y5 :: t :: ρ) := (.s (.s (.s (.s (.s (.s .z))))))
theorem mm6 {l : List Str} {x : Str} {z0 z1 z2 z3 z4 z5 : Str} : x ∈ z0 :: z1 :: z2 :: z3 :: z4 :: z5 :: x :: l := (.tail _ (.tail _ (.tail _ (.tail _ (.tail _ (.tail _ (.head _)))))))
theorem lk7 {N : List Str} {ρ : Rho} {x : Str} {s : Sl} {z0 z1 z2 z3 z4 z5 z6 : Str} {y0 y1 y2 y3 y4 y5 y6 : Sl} : Lk (z0 :: z1 :: z2 :: z3 :: z4 :: z5 :: z6 :: x :: N) (y0 :: y1 :: y2 :: y3 :: y4 :: y5 :: y6 :: s :: ρ) x 7 s := (.s (.s (.s (.s (.s (.s (.s .z)))))))
theorem pt7 {ρ : Rho} {s t : Sl} {y0 y1 y2 y3 y4 y5 y6 : Sl} : Pt (y0 :: y1 :: y2 :: y3 :: y4 :: y5 :: y6 :: s :: ρ) 7 t (y0 :: y1 :: y2 :: y3 :: y4 :: y5 :: y6 :: t :: ρ) := (.s (.s (.s (.s (.s (.s (.s .z)))))))
theorem mm7 {l : List Str} {x : Str} {z0 z1 z2 z3 z4 z5 z6 : Str} : x ∈ z0 :: z1 :: z2 :: z3 :: z4 :: z5 :: z6 :: x :: l := (.tail _ (.tail _ (.tail _ (.tail _ (.tail _ (.tail _ (.tail _ (.head _))))))))
theorem lk8 {N : List Str} {ρ : Rho} {x : Str} {s : Sl} {z0 z1 z2 z3 z4 z5 z6 z7 : Str} {y0 y1 y2 y3 y4 y5 y6 y7 : Sl} : Lk (z0 :: z1 :: z2 :: z3 :: z4 :: z5 :: z6 :: z7 :: x :: N) (y0 :: y1 :: y2 :: y3 :: y4 :: y5 :: y6 :: y7 :: s :: ρ) x 8 s := (.s (.s (.s (.s (.s (.s (.s (.s .z))))))))
theorem pt8 {ρ : Rho} {s t : Sl} {y0 y1 y2 y3 y4 y5 y6 y7 : Sl} : Pt (y0 :: y1 :: y2 :: y3 :: y4 :: y5 :: y6 :: y7 :: s :: ρ) 8 t (y0 :: y1 :: y2 :: y3 :: y4 :: y5 :: y6 :: y7 :: t :: ρ) := (.s (.s (.s (.s (.s (.s (.s (.s .z))))))))
theorem mm8 {l : List Str} {x : Str} {z0 z1 z2 z3 z4 z5 z6 z7 : Str} : x ∈ z0 :: z1 :: z2 :: z3 :: z4 :: z5 :: z6 :: z7 :: x :: l := (.tail _ (.tail _ (.tail _ (.tail _ (.tail _ (.tail _ (.tail _ (.tail _ (.head _)))))))))
theorem lk9 {N : List Str} {ρ : Rho} {x : Str} {s : Sl} {z0 z1 z2 z3 z4 z5 z6 z7 z8 : Str} {y0 y1 y2 y3 y4 y5 y6 y7 y8 : Sl} : Lk (z0 :: z1 :: z2 :: z3 :: z4 :: z5 :: z6 :: z7 :: z8 :: x :: N) (y0 :: y1 :: y2 :: y3 :: y4 :: y5 :: y6 :: y7 :: y8 :: s :: ρ) x 9 s := (.s (.s (.s (.s (.s (.s (.s (.s (.s .z)))))))))
theorem pt9 {ρ : Rho} {s t : Sl} {y0 y1 y2 y3 y4 y5 y6 y7 y8 : Sl} : Pt (y0 :: y1 :: y2 :: y3 :: y4 :: y5 :: y6 :: y7 :: y8 :: s :: ρ) 9 t (y0 :: y1 :: y2 :: y3 :: y4 :: y5 :: y6 :: y7 :: y8 :: t :: ρ) := (.s (.s (.s (.s (.s (.s (.s (.s (.s .z)))))))))
theorem mm9 {l : List Str} {x : Str} {z0 z1 z2 z3 z4 z5 z6 z7 z8 : Str} : x ∈ z0 :: z1 :: z2 :: z3 :: z4 :: z5 :: z6 :: z7 :: z8 :: x :: l := (.tail _ (.tail _ (.tail _ (.tail _ (.tail _ (.tail _ (.tail _ (.tail _ (.tail _ (.head _))))))))))
theorem lk10 {N : List Str} {ρ : Rho} {x : Str} {s : Sl} {z0 z1 z2 z3 z4 z5 z6 z7 z8 z9 : Str} {y0 y1 y2 y3 y4 y5 y6 y7 y8 y9 : Sl} : Lk (z0 :: z1 :: z2 :: z3 :: z4 :: z5 :: z6 :: z7 :: z8 :: z9 :: x :: N) (y0 :: y1 :: y2 :: y3 :: y4 :: y5 :: y6 :: y7 :: y8 :: y9 :: s :: ρ) x 10 s := (.s (.s (.s (.s (.s (.s (.s (.s (.s (.s .z))))))))))
theorem pt10 {ρ : Rho} {s t : Sl} {y0 y1 y2 y3 y4 y5 y6 y7 y8 y9 : Sl} : Pt (y0 :: y1 :: y2 :: y3 :: y4 :: y5 :: y6 :: y7 :: y8 :: y9 :: s :: ρ) 10 t (y0 :: y1 :: y2 :: y3 :: y4 :: y5 :: y6 :: y7 :: y8 :: y9 :: t :: ρ) := (.s (.s (.s (.s (.s (.s (.s (.s (.s (.s .z))))))))))
theorem mm10 {l : List Str} {x : Str} {z0 z1 z2 z3 z4 z5 z6 z7 z8 z9 : Str} : x ∈ z0 :: z1 :: z2 :: z3 :: z4 :: z5 :: z6 :: z7 :: z8 :: z9 :: x :: l := (.tail _ (.tail _ (.tail _ (.tail _ (.tail _ (.tail _ (.tail _ (.tail _ (.tail _ (.tail _ (.head _)))))))))))
theorem lk11 {N : List Str} {ρ : Rho} {x : Str} {s : Sl} {z0 z1 z2 z3 z4 z5 z6 z7 z8 z9 z10 : Str} {y0 y1 y2 y3 y4 y5 y6 y7 y8 y9 y10 : Sl} : Lk (z0 :: z1 :: z2 :: z3 :: z4 :: z5 :: z6 :: z7 :: z8 :: z9 :: z10 :: x :: N) (y0 :: y1 :: y2 :: y3 :: y4 :: y5 :: y6 :: y7 :: y8 :: y9 :: y10 :: s :: ρ) x 11 s := (.s (.s (.s (.s (.s (.s (.s (.s (.s (.s (.s .z)))))))))))
theorem pt11 {ρ : Rho} {s t : Sl} {y0 y1 y2 y3 y4 y5 y6 y7 y8 y9 y10 : Sl} : Pt (y0 :: y1 :: y2 :: y3 :: y4 :: y5 :: y6 :: y7 :: y8 :: y9 :: y10 :: s :: ρ) 11 t (y0 :: y1 :: y2 :: y3 :: y4 :: y5 :: y6 :: y7 :: y8 :: y9 :: y10 :: t :: ρ) := (.s (.s (.s (.s (.s (.s (.s (.s (.s (.s (.s .z)))))))))))
theorem mm11 {l : List Str} {x : Str} {z0 z1 z2 z3 z4 z5 z6 z7 z8 z9 z10 : Str} : x ∈ z0 :: z1 :: z2 :: z3 :: z4 :: z5 :: z6 :: z7 :: z8 :: z9 :: z10 :: x :: l := (.tail _ (.tail _ (.tail _ (.tail _ (.tail _ (.tail _ (.tail _ (.tail _ (.tail _ (.tail _ (.tail _ (.head _))))))))))))
theorem lk12 {N : List Str} {ρ : Rho} {x : Str} {s : Sl} {z0 z1 z2 z3 z4 z5 z6 z7 z8 z9 z10 z11 : Str} {y0 y1 y2 y3 y4 y5 y6 y7 y8 y9 y10 y11 : Sl} : Lk (z0 :: z1 :: z2 :: z3 :: z4 :: z5 :: z6 :: z7 :: z8 :: z9 :: z10 :: z11 :: x :: N) (y0 :: y1 :: y2 :: y3 :: y4 :: y5 :: y6 :: y7 :: y8 :: y9 :: y10 :: y11 :: s :: ρ) x 12 s := (.s (.s (.s (.s (.s (.s (.s (.s (.s (.s (.s (.s .z))))))))))))
theorem pt12 {ρ : Rho} {s t : Sl} {y0 y1 y2 y3 y4 y5 y6 y7 y8 y9 y10 y11 : Sl} : Pt (y0 :: y1 :: y2 :: y3 :: y4 :: y5 :: y6 :: y7 :: y8 :: y9 :: y10 :: y11 :: s :: ρ) 12 t (y0 :: y1 :: y2 :: y3 :: y4 :: y5 :: y6 :: y7 :: y8 :: y9 :: y10 :: y11 :: t :: ρ) := (.s (.s (.s (.s (.s (.s (.s (.s (.s (.s (.s (.s .z))))))))))))
theorem mm12 {l : List Str} {x : Str} {z0 z1 z2 z3 z4 z5 z6 z7 z8 z9 z10 z11 : Str} : x ∈ z0 :: z1 :: z2 :: z3 :: z4 :: z5 :: z6 :: z7 :: z8 :: z9 :: z10 :: z11 :: x :: l := (.tail _ (.tail _ (.tail _ (.tail _ (.tail _ (.tail _ (.tail _ (.tail _ (.tail _ (.tail _ (.tail _ (.tail _ (.head _)))))))))))))
theorem lk13 {N : List Str} {ρ : Rho} {x : Str} {s : Sl} {z0 z1 z2 z3 z4 z5 z6 z7 z8 z9 z10 z11 z12 : Str} {y0 y1 y2 y3 y4 y5 y6 y7 y8 y9 y10 y11 y12 : Sl} : Lk (z0 :: z1 :: z2 :: z3 :: z4 :: z5 :: z6 :: z7 :: z8 :: z9 :: z10 :: z11 :: z12 :: x :: N) (y0 :: y1 :: y2 :: y3 :: y4 :: y5 :: y6 :: y7 :: y8 :: y9 :: y10 :: y11 :: y12 :: s :: ρ) x 13 s := (.s (.s (.s (.s (.s (.s (.s (.s (.s (.s (.s (.s (.s .z)))))))))))))
theorem pt13 {ρ : Rho} {s t : Sl} {y0 y1 y2 y3 y4 y5 y6 y7 y8 y9 y10 y11 y12 : Sl} : Pt (y0 :: y1 :: y2 :: y3 :: y4 :: y5 :: y6 :: y7 :: y8 :: y9 :: y10 :: y11 :: y12 :: s :: ρ) 13 t (y0 :: y1 :: y2 :: y3 :: y4 :: y5 :: y6 :: y7 :: y8 :: y9 :: y10 :: y11 :: y12 :: t :: ρ) := (.s (.s (.s (.s (.s (.s (.s (.s (.s (.s (.s (.s (.s .z)))))))))))))
theorem mm13 {l : List Str} {x : Str} {z0 z1 z2 z3 z4 z5 z6 z7 z8 z9 z10 z11 z12 : Str} : x ∈ z0 :: z1 :: z2 :: z3 :: z4 :: z5 :: z6 :: z7 :: z8 :: z9 :: z10 :: z11 :: z12 :: x :: l := (.tail _ (.tail _ (.tail _ (.tail _ (.tail _ (.tail _ (.tail _ (.tail _ (.tail _ (.tail _ (.tail _ (.tail _ (.tail _ (.head _))))))))))))))
theorem lk14 {N : List Str} {ρ : Rho} {x : Str} {s : Sl} {z0 z1 z2 z3 z4 z5 z6 z7 z8 z9 z10 z11 z12 z13 : Str} {y0 y1 y2 y3 y4 y5 y6 y7 y8 y9 y10 y11 y12 y13 : Sl} : Lk (z0 :: z1 :: z2 :: z3 :: z4 :: z5 :: z6 :: z7 :: z8 :: z9 :: z10 :: z11 :: z12 :: z13 :: x :: N) (y0 :: y1 :: y2 :: y3 :: y4 :: y5 :: y6 :: y7 :: y8 :: y9 :: y10 :: y11 :: y12 :: y13 :: s :: ρ) x 14 s := (.s (.s (.s (.s (.s (.s (.s (.s (.s (.s (.s (.s (.s (.s .z))))))))))))))
theorem pt14 {ρ : Rho} {s t : Sl} {y0 y1 y2 y3 y4 y5 y6 y7 y8 y9 y10 y11 y12 y13 : Sl} : Pt (y0 :: y1 :: y2 :: y3 :: y4 :: y5 :: y6 :: y7 :: y8 :: y9 :: y10 :: y11 :: y12 :: y13 :: s :: ρ) 14 t (y0 :: y1 :: y2 :: y3 :: y4 :: y5 :: y6 :: y7 :: y8 :: y9 :: y10 :: y11 :: y12 :: y13 :: t :: ρ) := (.s (.s (.s (.s (.s (.s (.s (.s (.s (.s (.s (.s (.s (.s .z))))))))))))))
theorem mm14 {l : List Str} {x : Str} {z0 z1 z2 z3 z4 z5 z6 z7 z8 z9 z10 z11 z12 z13 : Str} : x ∈ z0 :: z1 :: z2 :: z3 :: z4 :: z5 :: z6 :: z7 :: z8 :: z9 :: z10 :: z11 :: z12 :: z13 :: x :: l := (.tail _ (.tail _ (.tail _ (.tail _ (.tail _ (.tail _ (.tail _ (.tail _ (.tail _ (.tail _ (.tail _ (.tail _ (.tail _ (.tail _ (.head _)))))))))))))))

theorem lk15 {N : List Str} {ρ : Rho} {x : Str} {s : Sl} {z0 z1 z2 z3 z4 z5 z6 z7 z8 z9 z10 z11 z12 z13 z14 : Str} {y0 y1 y2 y3 y4 y5 y6 y7 y8 y9 y10 y11 y12 y13 y14 : Sl} : Lk (z0 :: z1 :: z2 :: z3 :: z4 :: z5 :: z6 :: z7 :: z8 :: z9 :: z10 :: z11 :: z12 :: z13 :: z14 :: x :: N) (y0 :: y1 :: y2 :: y3 :: y4 :: y5 :: y6 :: y7 :: y8 :: y9 :: y10 :: y11 :: y12 :: y13 :: y14 :: s :: ρ) x 15 s := (.s (.s (.s (.s (.s (.s (.s (.s (.s (.s (.s (.s (.s (.s (.s .z)))))))))))))))
theorem pt15 {ρ : Rho} {s t : Sl} {y0 y1 y2 y3 y4 y5 y6 y7 y8 y9 y10 y11 y12 y13 y14 : Sl} : Pt (y0 :: y1 :: y2 :: y3 :: y4 :: y5 :: y6 :: y7 :: y8 :: y9 :: y10 :: y11 :: y12 :: y13 :: y14 :: s :: ρ) 15 t (y0 :: y1 :: y2 :: y3 :: y4 :: y5 :: y6 :: y7 :: y8 :: y9 :: y10 :: y11 :: y12 :: y13 :: y14 :: t :: ρ) := (.s (.s (.s (.s (.s (.s (.s (.s (.s (.s (.s (.s (.s (.s (.s .z)))))))))))))))
theorem mm15 {l : List Str} {x : Str} {z0 z1 z2 z3 z4 z5 z6 z7 z8 z9 z10 z11 z12 z13 z14 : Str} : x ∈ z0 :: z1 :: z2 :: z3 :: z4 :: z5 :: z6 :: z7 :: z8 :: z9 :: z10 :: z11 :: z12 :: z13 :: z14 :: x :: l := (.tail _ (.tail _ (.tail _ (.tail _ (.tail _ (.tail _ (.tail _ (.tail _ (.tail _ (.tail _ (.tail _ (.tail _ (.tail _ (.tail _ (.tail _ (.head _))))))))))))))))
theorem lk16 {N : List Str} {ρ : Rho} {x : Str} {s : Sl} {z0 z1 z2 z3 z4 z5 z6 z7 z8 z9 z10 z11 z12 z13 z14 z15 : Str} {y0 y1 y2 y3 y4 y5 y6 y7 y8 y9 y10 y11 y12 y13 y14 y15 : Sl} : Lk (z0 :: z1 :: z2 :: z3 :: z4 :: z5 :: z6 :: z7 :: z8 :: z9 :: z10 :: z11 :: z12 :: z13 :: z14 :: z15 :: x :: N) (y0 :: y1 :: y2 :: y3 :: y4 :: y5 :: y6 :: y7 :: y8 :: y9 :: y10 :: y11 :: y12 :: y13 :: y14 :: y15 :: s :: ρ) x 16 s := (.s (.s (.s (.s (.s (.s (.s (.s (.s (.s (.s (.s (.s (.s (.s (.s .z))))))))))))))))
theorem pt16 {ρ : Rho} {s t : Sl} {y0 y1 y2 y3 y4 y5 y6 y7 y8 y9 y10 y11 y12 y13 y14 y15 : Sl} : Pt (y0 :: y1 :: y2 :: y3 :: y4 :: y5 :: y6 :: y7 :: y8 :: y9 :: y10 :: y11 :: y12 :: y13 :: y14 :: y15 :: s :: ρ) 16 t (y0 :: y1 :: y2 :: y3 :: y4 :: y5 :: y6 :: y7 :: y8 :: y9 :: y10 :: y11 :: y12 :: y13 :: y14 :: y15 :: t :: ρ) := (.s (.s (.s (.s (.s (.s (.s (.s (.s (.s (.s (.s (.s (.s (.s (.s .z))))))))))))))))
theorem mm16 {l : List Str} {x : Str} {z0 z1 z2 z3 z4 z5 z6 z7 z8 z9 z10 z11 z12 z13 z14 z15 : Str} : x ∈ z0 :: z1 :: z2 :: z3 :: z4 :: z5 :: z6 :: z7 :: z8 :: z9 :: z10 :: z11 :: z12 :: z13 :: z14 :: z15 :: x :: l := (.tail _ (.tail _ (.tail _ (.tail _ (.tail _ (.tail _ (.tail _ (.tail _ (.tail _ (.tail _ (.tail _ (.tail _ (.tail _ (.tail _ (.tail _ (.tail _ (.head _)))))))))))))))))
theorem lk17 {N : List Str} {ρ : Rho} {x : Str} {s : Sl} {z0 z1 z2 z3 z4 z5 z6 z7 z8 z9 z10 z11 z12 z13 z14 z15 z16 : Str} {y0 y1 y2 y3 y4 y5 y6 y7 y8 y9 y10 y11 y12 y13 y14 y15 y16 : Sl} : Lk (z0 :: z1 :: z2 :: z3 :: z4 :: z5 :: z6 :: z7 :: z8 :: z9 :: z10 :: z11 :: z12 :: z13 :: z14 :: z15 :: z16 :: x :: N) (y0 :: y1 :: y2 :: y3 :: y4 :: y5 :: y6 :: y7 :: y8 :: y9 :: y10 :: y11 :: y12 :: y13 :: y14 :: y15 :: y16 :: s :: ρ) x 17 s := (.s (.s (.s (.s (.s (.s (.s (.s (.s (.s (.s (.s (.s (.s (.s (.s (.s .z)))))))))))))))))
theorem pt17 {ρ : Rho} {s t : Sl} {y0 y1 y2 y3 y4 y5 y6 y7 y8 y9 y10 y11 y12 y13 y14 y15 y16 : Sl} : Pt (y0 :: y1 :: y2 :: y3 :: y4 :: y5 :: y6 :: y7 :: y8 :: y9 :: y10 :: y11 :: y12 :: y13 :: y14 :: y15 :: y16 :: s :: ρ) 17 t (y0 :: y1 :: y2 :: y3 :: y4 :: y5 :: y6 :: y7 :: y8 :: y9 :: y10 :: y11 :: y12 :: y13 :: y14 :: y15 :: y16 :: t :: ρ) := (.s (.s (.s (.s (.s (.s (.s (.s (.s (.s (.s (.s (.s (.s (.s (.s (.s .z)))))))))))))))))
theorem mm17 {l : List Str} {x : Str} {z0 z1 z2 z3 z4 z5 z6 z7 z8 z9 z10 z11 z12 z13 z14 z15 z16 : Str} : x ∈ z0 :: z1 :: z2 :: z3 :: z4 :: z5 :: z6 :: z7 :: z8 :: z9 :: z10 :: z11 :: z12 :: z13 :: z14 :: z15 :: z16 :: x :: l := (.tail _ (.tail _ (.tail _ (.tail _ (.tail _ (.tail _ (.tail _ (.tail _ (.tail _ (.tail _ (.tail _ (.tail _ (.tail _ (.tail _ (.tail _ (.tail _ (.tail _ (.head _))))))))))))))))))
theorem lk18 {N : List Str} {ρ : Rho} {x : Str} {s : Sl} {z0 z1 z2 z3 z4 z5 z6 z7 z8 z9 z10 z11 z12 z13 z14 z15 z16 z17 : Str} {y0 y1 y2 y3 y4 y5 y6 y7 y8 y9 y10 y11 y12 y13 y14 y15 y16 y17 : Sl} : Lk (z0 :: z1 :: z2 :: z3 :: z4 :: z5 :: z6 :: z7 :: z8 :: z9 :: z10 :: z11 :: z12 :: z13 :: z14 :: z15 :: z16 :: z17 :: x :: N) (y0 :: y1 :: y2 :: y3 :: y4 :: y5 :: y6 :: y7 :: y8 :: y9 :: y10 :: y11 :: y12 :: y13 :: y14 :: y15 :: y16 :: y17 :: s :: ρ) x 18 s := (.s (.s (.s (.s (.s (.s (.s (.s (.s (.s (.s (.s (.s (.s (.s (.s (.s (.s .z))))))))))))))))))
theorem pt18 {ρ : Rho} {s t : Sl} {y0 y1 y2 y3 y4 y5 y6 y7 y8 y9 y10 y11 y12 y13 y14 y15 y16 y17 : Sl} : Pt (y0 :: y1 :: y2 :: y3 :: y4 :: y5 :: y6 :: y7 :: y8 :: y9 :: y10 :: y11 :: y12 :: y13 :: y14 :: y15 :: y16 :: y17 :: s :: ρ) 18 t (y0 :: y1 :: y2 :: y3 :: y4 :: y5 :: y6 :: y7 :: y8 :: y9 :: y10 :: y11 :: y12 :: y13 :: y14 :: y15 :: y16 :: y17 :: t :: ρ) := (.s (.s (.s (.s (.s (.s (.s (.s (.s (.s (.s (.s (.s (.s (.s (.s (.s (.s .z))))))))))))))))))
theorem mm18 {l : List Str} {x : Str} {z0 z1 z2 z3 z4 z5 z6 z7 z8 z9 z10 z11 z12 z13 z14 z15 z16 z17 : Str} : x ∈ z0 :: z1 :: z2 :: z3 :: z4 :: z5 :: z6 :: z7 :: z8 :: z9 :: z10 :: z11 :: z12 :: z13 :: z14 :: z15 :: z16 :: z17 :: x :: l := (.tail _ (.tail _ (.tail _ (.tail _ (.tail _ (.tail _ (.tail _ (.tail _ (.tail _ (.tail _ (.tail _ (.tail _ (.tail _ (.tail _ (.tail _ (.tail _ (.tail _ (.tail _ (.head _)))))))))))))))))))
theorem ite_dec {p : Prop} [Decidable p] {A B : Prop} (h1 : p → A) (h2 : ¬p → B) : if decide p = true then A else B := by
  by_cases h : p
  · rw [if_pos (decide_eq_true h)]; exact h1 h
  · rw [if_neg (by simpa using h)]; exact h2 h
theorem ite_ndec {p : Prop} [Decidable p] {A B : Prop} (h1 : p → B) (h2 : ¬p → A) : if (!decide p) = true then A else B := by
  by_cases h : p
  · rw [if_neg (by simp [h])]; exact h1 h
  · rw [if_pos (by simp [h])]; exact h2 h
theorem ite_b {t : Bool} {A B : Prop} (h1 : t = true → A) (h2 : t = false → B) : if t = true then A else B := by
  cases t with
  | true => rw [if_pos rfl]; exact h1 rfl
  | false => rw [if_neg Bool.false_ne_true]; exact h2 rfl
theorem ite_t {A B : Prop} (h : A) : if true = true then A else B := by rw [if_pos rfl]; exact h
theorem ite_f {A B : Prop} (h : B) : if false = true then A else B := by rw [if_neg Bool.false_ne_true]; exact h
section
variable {X : Cx} {F0 H0 : Hp} {ρ : Rho} {e : Expr} {P : D → Prop} {PB : Bool → Prop} {PF : List D → Prop} {PL : List D → Prop}
theorem wd_eq (v : D) (h : WD X F0 H0 ρ e fun d => d = v) (k : P v) : WD X F0 H0 ρ e P := h.mono fun d e => e ▸ k
theorem wt_eq (t : Bool) (h : WT X F0 H0 ρ e fun b => b = t) (k : PB t) : WT X F0 H0 ρ e PB := fun σ F H Q E q => h σ F H Q E fun b F' H' p => q b F' H' (p ▸ k)
theorem wf_eq (v : List D) (h : WF X F0 H0 ρ e fun d => d = v) (k : PF v) : WF X F0 H0 ρ e PF := fun σ F H Q E q => h σ F H Q E fun b p vs F' H' pp => q b p vs F' H' (pp ▸ k)
theorem wt_mono {PB' : Bool → Prop} (h : WT X F0 H0 ρ e PB) (m : ∀ b, PB b → PB' b) : WT X F0 H0 ρ e PB' := fun σ F H Q E q => h σ F H Q E fun b F' H' p => q b F' H' (m b p)
end

theorem b_len : bootBuiltins ("len" : Str) = some (.builtin "len") := by decide +kernel
theorem b_all : bootBuiltins ("all" : Str) = some (.builtin "all") := by decide +kernel
theorem b_sum : bootBuiltins ("sum" : Str) = some (.builtin "sum") := by decide +kernel
theorem b_min : bootBuiltins ("min" : Str) = some (.builtin "min") := by decide +kernel
theorem b_abs : bootBuiltins ("abs" : Str) = some (.builtin "abs") := by decide +kernel
theorem b_isinstance : bootBuiltins ("isinstance" : Str) = some (.builtin "isinstance") := by decide +kernel
theorem b_sorted : bootBuiltins ("sorted" : Str) = some (.builtin "sorted") := by decide +kernel
theorem b_int : bootBuiltins ("int" : Str) = some (.type "int") := by decide +kernel
theorem b_bool : bootBuiltins ("bool" : Str) = some (.type "bool") := by decide +kernel
theorem b_str : bootBuiltins ("str" : Str) = some (.type "str") := by decide +kernel
theorem b_tuple : bootBuiltins ("tuple" : Str) = some (.type "tuple") := by decide +kernel
theorem b_list : bootBuiltins ("list" : Str) = some (.type "list") := by decide +kernel
theorem b_dict : bootBuiltins ("dict" : Str) = some (.type "dict") := by decide +kernel
theorem b_range : bootBuiltins ("range" : Str) = some (.type "range") := by decide +kernel
theorem b_enumerate : bootBuiltins ("enumerate" : Str) = some (.type "enumerate") := by decide +kernel
theorem b_zip : bootBuiltins ("zip" : Str) = some (.type "zip") := by decide +kernel

/-! ### the model as data -/
open Pl
abbrev eN (x : Nat) : D := .int (x : Int)
abbrev eT (xs : List Nat) : D := .tup (xs.map eN)
def eO : Option Nat → D
  | none => .non
  | some b => eN b
abbrev eS (s : Stg) : D := .tup [eO s.1, eT s.2]
abbrev eM (m : Seam) : D := .tup [eS m.1, eS m.2.1, eT m.2.2]
def kN (x : Nat) : NestedKey := .num (x : Int)
def kO : Option Nat → NestedKey
  | none => .none
  | some b => kN b
def kT (xs : List Nat) : List NestedKey := xs.map kN
def kS (s : Stg) : List NestedKey := [kO s.1, .tup (kT s.2)]
def kM (m : Seam) : List NestedKey := [.tup (kS m.1), .tup (kS m.2.1), .tup (kT m.2.2)]
theorem ofK_kN (x : Nat) : ofK (kN x) = eN x := by unfold kN; rw [ofK]
theorem ofK_kO (x : Option Nat) : ofK (kO x) = eO x := by cases x with
  | none => show ofK .none = _; rw [ofK]; rfl
  | some b => exact ofK_kN b
theorem ofK_kT (xs : List Nat) : ofK (.tup (kT xs)) = eT xs := by
  rw [ofK, ofKs_map]
  unfold kT
  rw [List.map_map]
  exact congrArg D.tup (List.map_congr_left fun x _ => ofK_kN x)
theorem ofK_kS (s : Stg) : ofK (.tup (kS s)) = eS s := by
  rw [ofK]; unfold kS
  rw [ofKs, ofKs, ofKs, ofK_kO, ofK_kT]
theorem ofK_kM (m : Seam) : ofK (.tup (kM m)) = eM m := by
  rw [ofK]; unfold kM
  rw [ofKs, ofKs, ofKs, ofKs, ofK_kS, ofK_kS, ofK_kT]
theorem noTx_kT (xs : List Nat) : noTx (.tup (kT xs)) = true := by
  rw [noTx, noTxs_all, List.all_eq_true]
  intro k hk
  obtain ⟨x, _, rfl⟩ := List.mem_map.mp hk
  rfl
theorem noTx_kO (x : Option Nat) : noTx (kO x) = true := by cases x <;> rfl
theorem noTx_kS (s : Stg) : noTx (.tup (kS s)) = true := by
  rw [noTx, noTxs_all]; unfold kS
  simp only [List.all_cons, List.all_nil, noTx_kO, noTx_kT, Bool.and_self]
theorem noTx_kM (m : Seam) : noTx (.tup (kM m)) = true := by
  rw [noTx, noTxs_all]; unfold kM
  simp only [List.all_cons, List.all_nil, noTx_kS, noTx_kT, Bool.and_self]
theorem dep_tup (ks : List NestedKey) (m : Nat) (h : ∀ k ∈ ks, k.depth ≤ m) : (NestedKey.tup ks).depth ≤ m + 1 := by
  have := depthAll_le h
  simp only [NestedKey.depth]; omega
theorem dep_kN (x : Nat) : (kN x).depth = 0 := by unfold kN; simp only [NestedKey.depth]
theorem dep_kO (x : Option Nat) : (kO x).depth = 0 := by cases x with
  | none => show (NestedKey.none).depth = 0; simp only [NestedKey.depth]
  | some b => exact dep_kN b
theorem dep_kT (xs : List Nat) : (NestedKey.tup (kT xs)).depth ≤ 1 := dep_tup _ 0 fun k hk => by
  obtain ⟨x, _, rfl⟩ := List.mem_map.mp hk
  rw [dep_kN]; exact Nat.le_refl _
theorem dep_kS (s : Stg) : (NestedKey.tup (kS s)).depth ≤ 2 := dep_tup _ 1 fun k hk => by
  unfold kS at hk
  rcases List.mem_cons.mp hk with rfl | hk
  · rw [dep_kO]; omega
  · rw [List.mem_singleton.mp hk]; exact dep_kT _
theorem dep_kM (m : Seam) : (NestedKey.tup (kM m)).depth ≤ 3 := dep_tup _ 2 fun k hk => by
  unfold kM at hk
  rcases List.mem_cons.mp hk with rfl | hk
  · exact dep_kS _
  · rcases List.mem_cons.mp hk with rfl | hk
    · exact dep_kS _
    · rw [List.mem_singleton.mp hk]; have := dep_kT m.2.2; omega
theorem isK_N (x : Nat) : IsK (eN x) (kN x) := ⟨(ofK_kN x).symm, by rw [dep_kN]; omega, rfl⟩
theorem isK_O (x : Option Nat) : IsK (eO x) (kO x) := ⟨(ofK_kO x).symm, by rw [dep_kO]; omega, noTx_kO x⟩
theorem isK_T (x : List Nat) : IsK (eT x) (.tup (kT x)) := ⟨(ofK_kT x).symm, by have := dep_kT x; omega, noTx_kT x⟩
theorem isK_S (x : Stg) : IsK (eS x) (.tup (kS x)) := ⟨(ofK_kS x).symm, by have := dep_kS x; omega, noTx_kS x⟩
theorem isK_M (x : Seam) : IsK (eM x) (.tup (kM x)) := ⟨(ofK_kM x).symm, by have := dep_kM x; omega, noTx_kM x⟩
theorem isT_S (x : Stg) : IsT (eS x) (kS x) := ⟨by rw [← ofK_kS, ofK], by have := dep_kS x; omega⟩
theorem isT_M (x : Seam) : IsT (eM x) (kM x) := ⟨by rw [← ofK_kM, ofK], by have := dep_kM x; omega⟩
theorem isT_T (x : List Nat) : IsT (eT x) (kT x) := ⟨by rw [← ofK_kT, ofK], by have := dep_kT x; omega⟩
theorem kN_inj {x y : Nat} : kN x = kN y ↔ x = y := by
  unfold kN
  constructor
  · intro h; cases h; rfl
  · rintro rfl; rfl
theorem kO_inj {x y : Option Nat} : kO x = kO y ↔ x = y := by
  cases x <;> cases y
  · simp
  · exact ⟨(fun h => nomatch h), (fun h => nomatch h)⟩
  · exact ⟨(fun h => nomatch h), (fun h => nomatch h)⟩
  · exact ⟨fun h => by rw [kN_inj.mp h], fun h => by rw [h]⟩
theorem map_inj' {α β : Type} {f : α → β} (hf : ∀ a b, f a = f b → a = b) : ∀ {xs ys : List α}, xs.map f = ys.map f → xs = ys
  | [], [], _ => rfl
  | [], _ :: _, h => by cases h
  | _ :: _, [], h => by cases h
  | x :: xs, y :: ys, h => by
    rw [List.map_cons, List.map_cons] at h
    injection h with h1 h2
    rw [hf x y h1, map_inj' hf h2]
theorem kT_inj {x y : List Nat} : kT x = kT y ↔ x = y := ⟨fun h => map_inj' (fun a b => kN_inj.mp) h, fun h => by rw [h]⟩
theorem kS_inj {x y : Stg} : kS x = kS y ↔ x = y := by
  constructor
  · intro h
    unfold kS at h
    injection h with h1 h2
    injection h2 with h2 _
    injection h2 with h2
    obtain ⟨a, b⟩ := x
    obtain ⟨a', b'⟩ := y
    rw [kO_inj] at h1
    rw [kT_inj] at h2
    exact Prod.ext h1 h2
  · rintro rfl; rfl
theorem kM_inj {x y : Seam} : kM x = kM y ↔ x = y := by
  constructor
  · intro h
    unfold kM at h
    injection h with h1 h2
    injection h2 with h2 h3
    injection h3 with h3 _
    injection h1 with h1
    injection h2 with h2
    injection h3 with h3
    rw [kS_inj] at h1 h2
    rw [kT_inj] at h3
    obtain ⟨a, b, c⟩ := x
    obtain ⟨a', b', c'⟩ := y
    exact Prod.ext h1 (Prod.ext h2 h3)
  · rintro rfl; rfl
theorem dec_T (x y : List Nat) : decide (NestedKey.tup (kT x) = NestedKey.tup (kT y)) = decide (x = y) := by
  rw [Bool.eq_iff_iff]; simp only [decide_eq_true_eq, NestedKey.tup.injEq]; exact kT_inj
theorem dec_N (x y : Nat) : decide (kN x = kN y) = decide (x = y) := by
  rw [Bool.eq_iff_iff]; simp only [decide_eq_true_eq]; exact kN_inj
def rD (rows : List (Nat × Nat × Nat)) : List (Int × D) := rows.map fun r => ((r.1 : Int), .tup [eN r.2.1, eN r.2.2])
def tabD (CT : Addr) (p : Plan) : D := .ob CT [("classes", eT p.cls), ("rows", .ptup (rowsD (rD p.rows))), ("closed", eT p.shut)]
abbrev planD (p : Plan) : D := .tup [eT p.cls, .dk (rD p.rows), eT p.shut]
abbrev wayD (j : Bool) : D := .str (if j then "joined" else "apart")
/-- what the module holds, the defs left aside -/
structure Fx (M : Md) (CT CS CB : Addr) : Prop where

  n_len : M.mg ("len" : Str) = none
  n_all : M.mg ("all" : Str) = none
  n_sum : M.mg ("sum" : Str) = none
  n_min : M.mg ("min" : Str) = none
  n_abs : M.mg ("abs" : Str) = none
  n_isinstance : M.mg ("isinstance" : Str) = none
  n_sorted : M.mg ("sorted" : Str) = none
  n_int : M.mg ("int" : Str) = none
  n_bool : M.mg ("bool" : Str) = none
  n_str : M.mg ("str" : Str) = none
  n_tuple : M.mg ("tuple" : Str) = none
  n_list : M.mg ("list" : Str) = none
  n_dict : M.mg ("dict" : Str) = none
  n_range : M.mg ("range" : Str) = none
  n_enumerate : M.mg ("enumerate" : Str) = none
  n_zip : M.mg ("zip" : Str) = none
  gFIRST : GCon M.P M.w M.K M.mg "FIRST" (eS Plan.first)
  gWAYS : GCon M.P M.w M.K M.mg "WAYS" (.tup [.str "apart", .str "joined"])
  gMOST_MARKS : GCon M.P M.w M.K M.mg "MOST_MARKS" (.int 2)
  gMOST_SIGNS : GCon M.P M.w M.K M.mg "MOST_SIGNS" (.int 6)
  gMOST_CLASS : GCon M.P M.w M.K M.mg "MOST_CLASS" (.int 2)
  gT : M.mg ("Table" : Str) = some (.ref CT)
  gS : M.mg ("Safe" : Str) = some (.ref CS)
  gB : M.mg ("Broken" : Str) = some (.ref CB)
  cT : Cls M.K CT
  cS : Cls M.K CS
  cB : Cls M.K CB
  aT : ∀ f ∈ ([("classes" : Str), ("rows" : Str), ("closed" : Str)]), NoAttr M.K CT f
  aS : ∀ f ∈ ([("standings" : Str), ("seams" : Str)]), NoAttr M.K CS f
  aB : ∀ f ∈ ([("one" : Str), ("other" : Str)]), NoAttr M.K CB f
  iT : IsiC M.K CT
  iS : IsiC M.K CS
  iB : IsiC M.K CB
  kTT : PySem.W.kitOne M.K (.ref CT) (.ref CT) = some true
  kSS : PySem.W.kitOne M.K (.ref CS) (.ref CS) = some true
  kSB : PySem.W.kitOne M.K (.ref CS) (.ref CB) = some false
  kBS : PySem.W.kitOne M.K (.ref CB) (.ref CS) = some false
  kBB : PySem.W.kitOne M.K (.ref CB) (.ref CB) = some true
/-- an item of a tuple of numbers -/
theorem at_N {xs : List Nat} {i : Nat} (h : i < xs.length) : atI (xs.map eN) (i : Int) = some (eN (xs.getD i 0)) := by
  unfold atI ixN
  rw [List.length_map]
  simp [h, List.getD_eq_getElem?_getD]
theorem at_c {p : Plan} {x : Nat} (h : x < p.n) : atI (p.cls.map eN) (x : Int) = some (eN (p.c x)) := at_N h
theorem at_0 {d : D} {ds : List D} : atI (d :: ds) 0 = some d := by unfold atI ixN; simp
theorem at_1 {d e : D} {ds : List D} : atI (d :: e :: ds) 1 = some e := by unfold atI ixN; rw [if_pos (by decide), if_pos (by simp only [List.length_cons]; omega)]; rfl
theorem at_2 {d e f : D} {ds : List D} : atI (d :: e :: f :: ds) 2 = some f := by unfold atI ixN; rw [if_pos (by decide), if_pos (by simp only [List.length_cons]; omega)]; rfl
end W3
end
section
set_option Elab.async false
set_option linter.all false
set_option maxRecDepth 100000
set_option maxHeartbeats 2000000
/-! LP: comprehensions told by functions; list.index; two-fold comprehensions. -/
namespace W3
open PySem PySem.Spec PyProof.Rows L2

/-- what a comprehension's block does, over ds -/
def LcH (X : Cx) (F0 H0 : Hp) (ρ : Rho) (scope : Scope) (own : List (Str × Nat)) (tg : Expr) (ns : List Nat) (ifs : List Expr) (elt : Expr) (PF : List D → Prop) (ds : List D) : Prop :=
  ds.length ≤ sizeLine ∧ ∃ I : Nat → List D → Prop, I 0 [] ∧ (∀ acc, I ds.length acc → PF acc) ∧ ∀ i d acc, ds[i]? = some d → I i acc →
      ∀ q : Bq, WG (q.cx X scope) F0 H0 (wipeR ρ (own.map (·.2))) tg ns d fun ρ1 => WTs X scope F0 H0 ρ1 ifs fun b => if b = true then ∀ q : Bq, WD (q.cx X scope) F0 H0 ρ1 elt fun y => I (i + 1) (acc ++ [y]) else I (i + 1) acc
section
variable {X : Cx} {F0 H0 : Hp} {ρ : Rho} {N L A G : List Str} {k : Nat} {PF : List D → Prop} {elt tg iter c : Expr} {ifs : List Expr} {scope : Scope} {own : List (Str × Nat)} {pos : Pos} {ns : List Nat} {α : Type} {nx : Rho → Prop} {rt : D → Prop}
theorem wf_c (C : Cxt X N L A G k) (ok : BlkOk X.N X.env.scope scope own) (hns : ∀ j ∈ ns, j ∈ own.map (·.2)) (h : WI X F0 H0 ρ tg iter (LcH X F0 H0 ρ scope own tg ns ifs elt PF)) (hs : ∀ x, foldedSetIterable iter X.env x = pure x := by intro _; rfl) : WF X F0 H0 ρ (.ListComp elt [⟨tg, iter, ifs, 0⟩] scope pos) PF := wf_lc C ok hns h hs
theorem ws_c {x : Str} {n : Nat} {s : Sl} {p' : Pos} {cpos : Pos} (C : Cxt X N L A G k) (l : Lk N ρ x n s) (hyl : X.env.scope.names.lookup x = some .local) (ok : BlkOk X.N X.env.scope scope own) (hns : ∀ j ∈ ns, j ∈ own.map (·.2))
    (hsw : swapsWith (.ListComp elt [⟨tg, iter, ifs, 0⟩] scope cpos) (some (.Name x p')) pos.line X.env = pure true) (h : WI X F0 H0 ρ tg iter (LcH X F0 H0 ρ scope own tg ns ifs elt fun acc => ∃ ρ', Pt ρ n (.own acc) ρ' ∧ nx ρ'))
    (hs : ∀ x, foldedSetIterable iter X.env x = pure x := by intro _; rfl) : WS X F0 H0 ρ (.Assign [.Name x p'] (.ListComp elt [⟨tg, iter, ifs, 0⟩] scope cpos) pos) nx rt := ws_setLc C l hyl ok hns hsw h hs
theorem lc_map (xs : List α) (enc f : α → D) (hz : xs.length ≤ sizeLine) (k : PF (xs.map f)) (hb : ∀ x ∈ xs, ∀ q : Bq, WG (q.cx X scope) F0 H0 (wipeR ρ (own.map (·.2))) tg ns (enc x) fun ρ1 => ∀ q : Bq, WD (q.cx X scope) F0 H0 ρ1 elt fun y => y = f x) : LcH X F0 H0 ρ scope own tg ns [] elt PF (xs.map enc) := by
  refine ⟨by rw [List.length_map]; exact hz, fun i acc => acc = (xs.take i).map f, rfl, fun acc e => ?_, fun i d acc ed e q => ?_⟩
  · rw [List.length_map, List.take_length] at e; rw [e]; exact k
  · have hi : i < xs.length := by have := (List.getElem?_eq_some_iff.mp ed).1; rwa [List.length_map] at this
    rw [List.getElem?_map, List.getElem?_eq_getElem hi] at ed
    cases ed
    intro σ F H v Q E r kk
    refine hb _ (List.getElem_mem hi) q σ F H v Q E r fun ρ1 σ1 pr E1 ch => kk ρ1 σ1 ?_ E1 ch
    show if true = true then (∀ q2 : Bq, WD (q2.cx X scope) F0 H0 ρ1 elt fun y => acc ++ [y] = (xs.take (i + 1)).map f) else acc = (xs.take (i + 1)).map f
    rw [if_pos rfl]
    intro q2
    refine (pr q2).mono fun y ey => ?_
    rw [ey, e, List.take_succ, List.getElem?_eq_getElem hi, Option.toList_some, List.map_append]; rfl
theorem lc_filt (xs : List α) (enc : α → D) (p : α → Bool) (f : α → D) (hz : xs.length ≤ sizeLine) (k : PF ((xs.filter p).map f)) (hb : ∀ x ∈ xs, ∀ q : Bq, WG (q.cx X scope) F0 H0 (wipeR ρ (own.map (·.2))) tg ns (enc x) fun ρ1 => ∀ q : Bq, WT (q.cx X scope) F0 H0 ρ1 c fun b => b = p x ∧ (b = true → ∀ q : Bq, WD (q.cx X scope) F0 H0 ρ1 elt fun y => y = f x)) : LcH X F0 H0 ρ scope own tg ns [c] elt PF (xs.map enc) := by
  refine ⟨by rw [List.length_map]; exact hz, fun i acc => acc = ((xs.take i).filter p).map f, rfl, fun acc e => ?_, fun i d acc ed e q => ?_⟩
  · rw [List.length_map, List.take_length] at e; rw [e]; exact k
  · have hi : i < xs.length := by have := (List.getElem?_eq_some_iff.mp ed).1; rwa [List.length_map] at this
    rw [List.getElem?_map, List.getElem?_eq_getElem hi] at ed
    cases ed
    intro σ F H v Q E r kk
    refine hb _ (List.getElem_mem hi) q σ F H v Q E r fun ρ1 σ1 pr E1 ch => kk ρ1 σ1 ?_ E1 ch
    show ∀ q : Bq, WT _ _ _ _ _ _
    intro q2
    refine wt_mono (pr q2) fun b hb => ?_
    obtain ⟨e1, h2⟩ := hb
    have et : (xs.take (i + 1)).filter p = (xs.take i).filter p ++ (if p xs[i] = true then [xs[i]] else []) := by
      rw [List.take_succ, List.getElem?_eq_getElem hi, Option.toList_some, List.filter_append]
      congr 1
      by_cases z : p xs[i] = true
      · rw [if_pos z]; simp [z]
      · rw [if_neg z]; simp [z]
    cases b with
    | true =>
      rw [if_pos rfl]
      intro q3
      refine (h2 rfl q3).mono fun y ey => ?_
      show acc ++ [y] = ((xs.take (i + 1)).filter p).map f
      rw [ey, e, et, if_pos e1.symm, List.map_append]; rfl
    | false =>
      rw [if_neg Bool.false_ne_true]
      show acc = ((xs.take (i + 1)).filter p).map f
      rw [e, et, if_neg (by rw [← e1]; exact Bool.false_ne_true), List.append_nil]
end
section
variable {X : Cx} {F0 H0 : Hp} {ρ : Rho} {N L A G : List Str} {k : Nat} {scope : Scope} {q : Bq} {tg e : Expr} {ns : List Nat} {d : D} {PR : Rho → Prop} {P : D → Prop} {PB : Bool → Prop}
/-- the names within a block -/
theorem wg_in (C : Cxt X N L A G k) (L' A' G' : List Str) (hL : okL scope L' = true) (hA : (A'.all fun x => inKind scope [.local] x) = true) (hG : okG scope G' = true) (h : Cxt (q.cx X scope) N L' A' G' k → WG (q.cx X scope) F0 H0 ρ tg ns d PR) : WG (q.cx X scope) F0 H0 ρ tg ns d PR := h (cxt_q C q hL hA hG)
theorem wd_in (C : Cxt X N L A G k) (L' A' G' : List Str) (hL : okL scope L' = true) (hA : (A'.all fun x => inKind scope [.local] x) = true) (hG : okG scope G' = true) (h : Cxt (q.cx X scope) N L' A' G' k → WD (q.cx X scope) F0 H0 ρ e P) : WD (q.cx X scope) F0 H0 ρ e P := h (cxt_q C q hL hA hG)
theorem wt_in (C : Cxt X N L A G k) (L' A' G' : List Str) (hL : okL scope L' = true) (hA : (A'.all fun x => inKind scope [.local] x) = true) (hG : okG scope G' = true) (h : Cxt (q.cx X scope) N L' A' G' k → WT (q.cx X scope) F0 H0 ρ e PB) : WT (q.cx X scope) F0 H0 ρ e PB := h (cxt_q C q hL hA hG)
end
/-! ### [..].index(e), ints -/
section
variable {X : Cx} {F0 H0 : Hp} {ρ : Rho} {N L A G : List Str} {k : Nat} {P : D → Prop} {e o : Expr} {pos apos cpos : Pos}
theorem wd_index (h : WF X F0 H0 ρ o fun ds => ∃ is : List Int, ds = is.map D.int ∧ WD X F0 H0 ρ e fun d => ∃ i, d = .int i ∧ i ∈ is ∧ P (.int (is.idxOf i)))
    (hbase : attributeBase o "index" X.env (eval o X.env) = eval o X.env := by rfl)
    (hfew : ((backTo cpos (starEach [e] X.env)).all (fun x => !x.1) && (backToKw cpos (keywordEach [] X.env)).all (fun x => x.1.isSome)
      && decide ([e].length + ([] : List Keyword).length + (if ([] : List Keyword).isEmpty then 0 else 1) < 30)) = true := by rfl)
    (hline : (apos.endLine == cpos.line) = true := by rfl) (hs : starEach [e] X.env = (false, eval e X.env) :: starEach [] X.env := by rfl) (hplain : (backTo cpos (starEach [] X.env)).any (·.1) = false := by rfl) :
    WD X F0 H0 ρ (.Call (.Attribute o "index" apos) [e] [] cpos) P := fun σ F H Q E kk => by
  refine run_pe (pe_bm PySem.F.plainAttrs_list PySem.F.slot_list_index PySem.F.type_list_index mt_index pe_run (pa_cons pe_run pa_nil hs) hbase hfew hline hs hplain) ?_
  refine h σ F H _ E fun ds p vs F1 H1 h1 s1 h0 hf hh r => ?_
  obtain ⟨is, rfl, h1⟩ := h1
  have ev := r.ints
  subst ev
  refine ⟨.inl ⟨rfl, _, SqL.of hh⟩, ?_⟩
  refine h1 σ F1 H1 _ (E.stp s1) fun d v F2 H2 pp s2 rd => ?_
  obtain ⟨i, rfl, hi, pp⟩ := pp
  cases rd
  have hh2 : H2 p = some (.lst (is.map V.int)) := s2.hh _ _ hh
  have hlt : is.idxOf i < is.length := List.idxOf_lt_length_iff.mpr hi
  refine ⟨p, _, .int i, is.idxOf i, .int i, rfl, rfl, SqL.of hh2, rfl, flat_ints is, ?_, by simp [eqV], fun m z' hm hz' => ?_, kk _ _ F2 H2 pp (s1.trans s2) (.int _)⟩
  · rw [List.getElem?_map, List.getElem?_eq_getElem hlt, List.getElem_idxOf]; rfl
  · rw [List.getElem?_map] at hz'
    obtain ⟨j, hj, rfl⟩ := Option.map_eq_some_iff.mp hz'
    have hne : j ≠ i := fun e => by
      subst e
      obtain ⟨hml, hme⟩ := List.getElem?_eq_some_iff.mp hj
      unfold List.idxOf at hm
      have q := List.not_of_lt_findIdx hm
      rw [hme] at q
      simp at q
    simp [eqV, hne]
end
end W3
end
section
set_option Elab.async false
set_option linter.all false
set_option maxRecDepth 100000
set_option maxHeartbeats 2000000
/-! LQ: __init__ by its body; a new instance with a keyword. -/
namespace W3
open PySem PySem.Spec PyProof.Rows L2

theorem fm0I {P : Program} {w : World} {K : PySem.W.Frag} {F H0 : Hp} {ds : List D} {vs : List V} {N : List Str} {x dx C : Addr} (s : Same F H0) (r : Reps P w K F ds vs) (hx : H0 x = none) (hdx : H0 dx = none) (ne : dx ≠ x) :
    Fm P w K F H0 (.ownI x C [] :: slots0 ds (N.length - (vs.length + 1))) (L2.start N (.ref x :: vs)) F (upd (upd H0 dx (.own x)) x (.ins C dx [])) := by
  have E := fm0 (P := P) (w := w) (K := K) (N := N.drop 1) s r
  have hl : (N.drop 1).length - vs.length = N.length - (vs.length + 1) := by rw [List.length_drop]; omega
  rw [hl] at E
  have hst : L2.start N (.ref x :: vs) = some (.ref x) :: L2.start (N.drop 1) vs := by
    unfold L2.start
    rw [List.map_cons, List.cons_append, List.length_cons, List.length_drop]
    congr 3
    omega
  rw [hst]
  have hFx : F x = none := s.free hx
  refine ⟨fun b u e => ?_, Same.refl F, fun b u e => ?_, fun b o h n => n, by rw [List.length_cons, List.length_cons]; exact congrArg Nat.succ E.len, fun i y e => ?_, fun i y e q => ?_, fun i j y z p ne' h1 h2 q1 q2 e1 e2 => ?_⟩
  · rw [upd_ne (ne_of_none (s b u e) hx), upd_ne (ne_of_none (s b u e) hdx)]; exact s b u e
  · rw [upd_ne (ne_of_none e hx), upd_ne (ne_of_none e hdx)]; exact e
  · cases i with
    | zero => cases e
    | succ i => exact E.dat i y (by simpa using e)
  · cases i with
    | zero => cases e; exact ⟨x, rfl, ⟨rfl, dx, [], upd_same, .nil⟩, hFx, hx⟩
    | succ i =>
      obtain ⟨p, h1, h2, h3, h4⟩ := E.own i y (by simpa using e) q
      obtain ⟨o, ho⟩ := h2.some
      rw [h4] at ho; cases ho
  · have no : ∀ (k : Nat) (y : Sl), (Sl.ownI x C [] :: slots0 ds (N.length - (vs.length + 1)))[k]? = some y → y.isOwn = true → k = 0 := fun k y e q => by
      cases k with
      | zero => rfl
      | succ k =>
        obtain ⟨p, h1, h2, h3, h4⟩ := E.own k y (by simpa using e) q
        obtain ⟨o, ho⟩ := h2.some
        rw [h4] at ho; cases ho
    exact ne' ((no i y h1 q1).trans (no j z h2 q2).symm)
/-- __init__ by its body -/
theorem mk_ok {M : Md} {x qual : Str} {pa : Arguments} {bd : List Stmt} {sc : Scope} {dvs : List V} {kws : List (Str × V)} {f : Addr} {fd : FuncData} {N ps : List Str} {k n : Nat} {Cl : Addr} {Ci : CtI} (L As G : List Str) (Fd : FunD M.K x qual pa bd sc dvs kws f fd) (S : FnScope N ps sc) (hn : ps.length = n + 1) (hL : okL sc L = true) (hA : okA sc As = true) (hG : okG sc G = true)
    (hb : ∀ (q : Dq) (F0 H0 : Hp) (ad : Addr), Cxt (M.cx N qual sc q) N L As G k → ∀ (ds : List D) (R : List (Str × D) → Prop), ds.length = n → Ci ds R → WB (M.cx N qual sc q) F0 H0 (.ownI ad Cl [] :: slots0 ds (N.length - (n + 1))) bd (fun ρ' => ∃ fs, ρ'[0]? = some (.ownI ad Cl fs) ∧ R fs) (fun _ => False)) : FnOk M.P M.w M.K M.mg M.base CX0 (k + 1) f fd ps (spI M.P M.w M.K Cl n Ci) := by
  refine Fd.ok S (fun vs H Q E h => ?_) fun cdv A outer s H vs Q E hr h => ?_
  · obtain ⟨H0, F, x, dx, ds, ws, R, hx, hdx, ne, eH, ev, sm, r, hl, _⟩ := h
    rw [ev, List.length_cons, ← r.length, hl, hn]
  · obtain ⟨H0, F, x, dx, ds, ws, R, hx, hdx, ne, eH, ev, sm, r, hl, hc, kk⟩ := h
    subst ev
    have C' : Cxt (M.cx N qual sc ⟨f, cdv, A, outer, s, H, E⟩) N L As G k := cxt_def rfl S.nd rfl rfl rfl hr rfl hL hA hG
    refine ⟨_, (pss_run (X := (cxOf CX0 M.P M.w M.K M.mg M.base N qual sc f cdv A outer s H E).nox)).nox, ?_⟩
    have hv : ws.length = n := by rw [← r.length]; exact hl
    have E0 := fm0I (N := N) (C := Cl) sm r hx hdx ne
    rw [hv] at E0
    rw [eH]
    subst eH
    refine hb ⟨f, cdv, A, outer, s, _, E⟩ F H0 x C' ds R hl hc (L2.start N (.ref x :: ws)) F _ _ E0 (fun ρ' σ' F' H' p E' _ => ?_) (fun d v F' H' p st rd => p.elim)
    obtain ⟨fs, e0, pf⟩ := p
    obtain ⟨p, h1, ⟨rfl, dx', fvs, h2, rf⟩, h3, h4⟩ := E'.own 0 _ e0 rfl
    exact kk fs fvs dx' F' H' pf E'.f0 E'.h0 E'.sub E'.out h3 h2 rf
/-- a class made with two values and the keyword closed -/
structure MkT3 (P : Program) (w : World) (K : PySem.W.Frag) (mg : Str → Option Value) (base : Heap) (x : Str) (C : Addr) (k : Nat) (Ci : CtI) : Prop where
  gl : mg x = some (.ref C)
  ex : ∃ (f : Addr) (fd : FuncData) (ps : List Str), Mk K C f ∧ KBn K fd ps 3 ["closed"] (fun us ws => us ++ ws) (fun vs zs => vs ++ zs) ∧ FnOk P w K mg base CX0 k f fd ps (spI P w K C 3 Ci)
theorem wd_make3 {X : Cx} {F0 H0 : Hp} {ρ : Rho} {N L A G : List Str} {k : Nat} {P : D → Prop} {e e3 : Expr} {es : List Expr} {x : Str} {Cl : Addr} {j : Nat} {Ci : CtI} {p kp pos : Pos} (T : MkT3 X.prog X.w X.K X.mg X.base x Cl j Ci) (hj : j + 1 ≤ k) (C : Cxt X N L A G k) (m : x ∈ G)
    (h : WA X F0 H0 ρ (e :: es) fun ds => ds.length = 2 ∧ WD X F0 H0 ρ e3 fun d3 => Ci (ds ++ [d3]) fun fs => P (.ob Cl fs))
    (hall : (backToKw pos (keywordEach [⟨some "closed", e3, kp⟩] X.env)).all (·.1.isSome) = true := by rfl) (hks : (backToKw pos (keywordEach [⟨some "closed", e3, kp⟩] X.env)).filterMap (·.1) = [("closed" : Str)] := by rfl)
    (he : starEach (e :: es) X.env = (false, eval e X.env) :: starEach es X.env := by rfl) (hpl : ((backTo pos (starEach (e :: es) X.env)).any (·.1) || (backToKw pos (keywordEach [⟨some "closed", e3, kp⟩] X.env)).any (·.1.isNone)) = false := by rfl) :
    WD X F0 H0 ρ (.Call (.Name x p) (e :: es) [⟨some "closed", e3, kp⟩] pos) P := fun σ F H Q E kk => by
  obtain ⟨gl, h1, h2⟩ := C.glo x m
  obtain ⟨f, fd, ps, M, hb, hF⟩ := T.ex
  refine run_pe (pe_makeK (n := 2) M hF (C.room.mono hj) gl T.gl hb pass0 pa_run (pk_cons pe_run pk_nil) hall hks h1 he hpl) ?_
  refine h σ F H _ E fun ds vs F1 H1 p s1 r1 => ?_
  refine p.2 σ F1 H1 _ (E.stp s1) fun d3 v3 F2 H2 p3 s2 r3 => ⟨by rw [← r1.length]; exact p.1, rfl, fun x dx hx hdx ne => ?_⟩
  have r : RepsX X F2 (ds ++ [d3]) (vs ++ [v3]) := (r1.mono s2.ff).append (.cons r3 .nil)
  have hl3 : (ds ++ [d3]).length = 3 := by rw [List.length_append, p.1]; rfl
  have st12 := s1.trans s2
  refine ⟨H2, F2, x, dx, ds ++ [d3], vs ++ [v3], _, hx, hdx, ne, rfl, rfl, s2.sub, r, hl3, p3, fun fs fvs dx' F' H' pf ff hh sub out hF0 hH' rf => ⟨rfl, ?_⟩⟩
  have st : Stp F2 H2 F' H' := ⟨ff, hh, sub, out⟩
  have fne : ∀ b u, F' b = some u → b ≠ x := fun b u e q => by rw [q, hF0] at e; cases e
  refine kk _ _ _ _ pf (st12.trans (st.frz hx hH')) (.ob upd_same (rf.mono fun b u e => by rw [upd_ne (fne b u e)]; exact e))
end W3
end
section
set_option Elab.async false
set_option linter.all false
set_option maxRecDepth 100000
set_option maxHeartbeats 2000000
/-! LR: a comprehension of two clauses. -/
namespace W3
open PySem PySem.Spec PyProof.Rows L2

theorem sw_trueD {kx vx : Expr} {gs : List Comprehension} {scope : Scope} {pos py : Pos} {y : Str} {l : Nat} {env : Env} (hk : env.scope.kind = .function) (hy : env.scope.names.lookup y = some .local) (hl : (py.line == pos.line) = true)
    (ha : (scope.names.any fun (n, k) => n == y && (k == .local || k == .cell)) = false) : swapsWith (.DictComp kx vx gs scope pos) (some (.Name y py)) l env = pure true := by
  have ky : env.kindOf y = some .local := hy
  have hb : env.blockKind = .function := by unfold Env.blockKind; rw [hk]; rfl
  unfold swapsWith
  simp only [hb, ky, ha, Expr.pos, hl]
  rfl
theorem wipeR_own {ρ : Rho} (h : ∀ s ∈ ρ, Sl.isOwn s = false) : ∀ vs : List Nat, ∀ s ∈ wipeR ρ vs, Sl.isOwn s = false
  | [], s, hs => h s hs
  | v :: vs, s, hs => by
    unfold wipeR at hs
    rcases List.mem_or_eq_of_mem_set hs with hs | rfl
    · exact wipeR_own h vs s hs
    · rfl
theorem noOwn_ap {ρ : Rho} {σ : L2.St} {p : Addr} (h : ∀ s ∈ ρ, Sl.isOwn s = false) : ∀ (i : Nat) (y : Sl), ρ[i]? = some y → y.isOwn = true → σ[i]? ≠ some (some (V.ref p)) := fun i y e q => by
  rw [h y (List.mem_of_getElem? e)] at q; cases q
section
variable {X : Cx} {F0 H0 : Hp} {ρ : Rho} {N L A G : List Str} {k : Nat} {elt tg iter tg1 iter1 : Expr} {scope : Scope} {own : List (Str × Nat)} {pos : Pos} {ns ns1 vs1 : List Nat} {α β : Type} {nx : Rho → Prop} {rt : D → Prop}
/-- name = [elt for tg in iter for tg1 in iter1] on one line -/
theorem ws_c2 {x : Str} {n : Nat} {s : Sl} {p' : Pos} {cpos : Pos} (C : Cxt X N L A G k) (l : Lk N ρ x n s) (hyl : X.env.scope.names.lookup x = some .local) (ok : BlkOk X.N X.env.scope scope own) (hns : ∀ j ∈ ns, j ∈ own.map (·.2)) (hv : ∀ i ∈ vs1, i ∈ own.map (·.2)) (hns1 : ∀ j ∈ ns1, j ∈ vs1)
    (hsw : swapsWith (.ListComp elt [⟨tg, iter, [], 0⟩, ⟨tg1, iter1, [], 0⟩] scope cpos) (some (.Name x p')) pos.line X.env = pure true)
    (xs : List α) (ys : List β) (enc : α → D) (enc1 : β → D) (f : α → β → D) (hz : xs.length * ys.length ≤ 1000000)
    (h : WI X F0 H0 ρ tg iter fun ds => ds = xs.map enc ∧ ∃ ρ', Pt ρ n (.own (xs.flatMap fun a => ys.map (f a))) ρ' ∧ nx ρ')
    (hb : ∀ a ∈ xs, ∀ q : Bq, WG (q.cx X scope) F0 H0 (wipeR ρ (own.map (·.2))) tg ns (enc a) fun ρ1 => (∀ s ∈ ρ1, Sl.isOwn s = false) ∧ (∀ q : Bq, WI (q.cx X scope) F0 H0 ρ1 tg1 iter1 fun ds => ds = ys.map enc1) ∧
      ∀ b ∈ ys, ∀ q : Bq, WG (q.cx X scope) F0 H0 (wipeR ρ1 vs1) tg1 ns1 (enc1 b) fun ρ2 => ∀ q : Bq, WD (q.cx X scope) F0 H0 ρ2 elt fun d => d = f a b)
    (hs : ∀ x, foldedSetIterable iter X.env x = pure x := by intro _; rfl) (hs1 : ∀ env x, foldedSetIterable iter1 env x = pure x := by intro _ _; rfl) : WS X F0 H0 ρ (.Assign [.Name x p'] (.ListComp elt [⟨tg, iter, [], 0⟩, ⟨tg1, iter1, [], 0⟩] scope cpos) pos) nx rt := fun σ F H E0 E k1 k2 => by
  refine run_ps (ps_setLc2 (wi1 := fun σ H R => ∀ q : Bq, RunI (q.cx X scope) tg1 iter1 σ H R) (g := fun v σ H Q => ∀ q : Bq, RunG (q.cx X scope) tg v σ H Q) (g1 := fun v σ H Q => ∀ q : Bq, RunG (q.cx X scope) tg1 v σ H Q) (te := fun σ H Q => ∀ q : Bq, RunE (q.cx X scope) elt σ H Q) C.calm (by rw [C.hN]; exact C.nd) (by rw [C.hN]; exact l.n) hyl hsw pi_run ok hv
    (fun s H Ca cl fp => ⟨fun pins s1 _ _ v u _ I r h => (h ⟨s, H, Ca, cl, fp⟩).go pins s1 u I r⟩) (fun s H Ca cl fp => pts_nil) (fun s H Ca cl fp => ⟨fun pins s1 _ _ _ I h => (h ⟨s, H, Ca, cl, fp⟩).go pins s1 I⟩) (fun s H Ca cl fp => ⟨fun pins s1 _ _ v u _ I r h => (h ⟨s, H, Ca, cl, fp⟩).go pins s1 u I r⟩) (fun s H Ca cl fp => pts_nil) (fun s H Ca cl fp => ⟨fun pins s1 _ _ _ I h => (h ⟨s, H, Ca, cl, fp⟩).go pins s1 I⟩) hs hs1) ?_
  have hfl : ∀ i, ((xs.take i).flatMap fun a => ys.map (f a)).length ≤ xs.length * ys.length := fun i => by
    rw [List.length_flatMap]
    simp only [List.length_map]
    rw [List.map_const', List.sum_replicate_nat, List.length_take]
    exact Nat.mul_le_mul_right _ (Nat.min_le_right _ _)
  refine h σ F H _ E fun J ds F1 H1 p1 s1 wk => ?_
  obtain ⟨rfl, hfin⟩ := p1
  intro D hD
  have fD : F1 D = none := s1.sub.free hD
  have h0D : H0 D = none := (E.h0.trans s1.hh).free hD
  have E1 := (E.stp s1).wipe (own.map (·.2))
  have apart : ∀ (i : Nat) (z : Sl), (wipeR ρ (own.map (·.2)))[i]? = some z → z.isOwn = true → (L2.wipe σ (own.map (·.2)))[i]? ≠ some (some (V.ref D)) := fun i z ez qz ej => by
    obtain ⟨p, e1, e2, _⟩ := E1.own i z ez qz
    rw [e1] at ej
    cases ej
    obtain ⟨o, eo⟩ := e2.some
    rw [hD] at eo; cases eo
  have stput : ∀ {F' H' : Hp} {o : HO}, Stp F1 H1 F' H' → F' D = none → Stp F1 H1 F' (upd H' D o) := fun {F' H' o} st hF => by
    refine ⟨st.ff, fun b u eb => ?_, fun b u eb => ?_, fun b u eb n => st.out b u eb n⟩
    · rw [upd_ne (ne_of_none eb hD)]; exact st.hh b u eb
    · rw [upd_ne (ne_of_none eb hF)]; exact st.sub b u eb
  refine ⟨fun i m H2 => ∃ F2 vs, i + m = xs.length ∧ Fm X.prog X.w X.K F0 H0 (wipeR ρ (own.map (·.2))) (L2.wipe σ (own.map (·.2))) F2 H2 ∧ Stp F1 H1 F2 H2 ∧ H2 D = some (.lst vs) ∧ F2 D = none ∧ RepsX X F2 ((xs.take i).flatMap fun a => ys.map (f a)) vs, ⟨xs.length, F1, [], Nat.zero_add _, E1.put fD h0D apart, stput (Stp.refl s1.sub) fD, upd_same, fD, .nil⟩, ?_⟩
  rintro i m H2 ⟨F2, vs, e, E2, s2, hHD, hFD, ra⟩
  rcases m with _ | m
  · refine .inl ⟨?_, ?_⟩
    · have := wk.stops H2 (s2.ff.trans s2.sub)
      rw [List.length_map] at this
      rw [show i = xs.length by omega]; exact this
    · rw [List.take_of_length_le (by omega)] at ra
      obtain ⟨ρ2, pt, pp⟩ := hfin
      have e := pt.eq
      subst e
      exact k1 _ _ F2 H2 pp ((E.stp (s1.trans s2)).setV (Hs := H) (s := .own _) ⟨D, rfl, ⟨vs, hHD, ra⟩, hFD, s1.free hD⟩ E.h0 fun i x e q _ => E.live i x e q) (s1.trans s2).ff
  · have hlt : i < xs.length := by omega
    refine .inr ⟨wk.goes i H2 (by rw [List.length_map]; exact hlt) (s2.ff.trans s2.sub), fun H2 => ∃ F2 vs, Fm X.prog X.w X.K F0 H0 (wipeR ρ (own.map (·.2))) (L2.wipe σ (own.map (·.2))) F2 H2 ∧ Stp F1 H1 F2 H2 ∧ H2 D = some (.lst vs) ∧ F2 D = none ∧ RepsX X F2 ((xs.take (i + 1)).flatMap fun a => ys.map (f a)) vs, ?_, ?_⟩
    · rintro H' ⟨F2, vs, r⟩
      exact ⟨m, Nat.lt_succ_self _, F2, vs, by omega, r⟩
    · intro x H3 y
      obtain ⟨d, F3, ed, s3, rx⟩ := wk.yields i H2 x H3 F2 (by rw [List.length_map]; exact hlt) s2.ff s2.sub y
      rw [List.getElem?_map, List.getElem?_eq_getElem hlt] at ed
      cases ed
      intro q
      refine hb xs[i] (List.getElem_mem hlt) q _ F3 H3 x _ (E2.stp s3) rx fun ρ1 σ1 pr E3 ch => ⟨wipe_chg ch hns, ?_⟩
      obtain ⟨hno, hwi, hin⟩ := pr
      dsimp only [L2.tYes]
      rw [if_pos rfl]
      intro q1
      refine hwi q1 σ1 F3 H3 _ E3 fun J1 ds1 F4 H4 p4 s4 wk1 => ?_
      subst p4
      have st4 := (s2.trans s3).trans s4
      have hD4 : H4 D = some (.lst vs) := s4.hh _ _ (s3.hh _ _ hHD)
      have fD4 : F4 D = none := s4.out _ _ (s3.hh _ _ hHD) (s3.out _ _ hHD hFD)
      have hno1 := wipeR_own hno vs1
      refine ⟨fun jj kk H5 => ∃ F5 vs5, jj + kk = ys.length ∧ Fm X.prog X.w X.K F0 H0 (wipeR ρ (own.map (·.2))) (L2.wipe σ (own.map (·.2))) F5 H5 ∧ Fm X.prog X.w X.K F0 H0 (wipeR ρ1 vs1) (L2.wipe σ1 vs1) F5 H5 ∧ Same F4 F5 ∧ Stp F1 H1 F5 H5 ∧ H5 D = some (.lst vs5) ∧ F5 D = none ∧ RepsX X F5 (((xs.take i).flatMap fun a => ys.map (f a)) ++ (ys.take jj).map (f xs[i])) vs5,
        ⟨ys.length, F4, vs, Nat.zero_add _, (E2.stp s3).stp s4, (E3.stp s4).wipe vs1, Same.refl _, st4, hD4, fD4, by rw [List.take_zero, List.map_nil, List.append_nil]; exact ra.mono (s3.ff.trans s4.ff)⟩, ?_⟩
      rintro jj kk H5 ⟨F5, vs5, ej, Eo, Ei, sm5, st5, hD5, fD5, ra5⟩
      rcases kk with _ | kk
      · refine .inl ⟨?_, ?_⟩
        · have := wk1.stops H5 (sm5.trans Ei.sub)
          rw [List.length_map] at this
          rw [show jj = ys.length by omega]; exact this
        · rw [List.take_of_length_le (l := ys) (by omega)] at ra5
          refine ⟨F5, vs5, Eo, st5, hD5, fD5, ?_⟩
          rw [List.take_succ, List.getElem?_eq_getElem hlt, Option.toList_some, List.flatMap_append]
          simpa using ra5
      · have hltj : jj < ys.length := by omega
        refine .inr ⟨wk1.goes jj H5 (by rw [List.length_map]; exact hltj) (sm5.trans Ei.sub), fun H5 => ∃ F5 vs5, Fm X.prog X.w X.K F0 H0 (wipeR ρ (own.map (·.2))) (L2.wipe σ (own.map (·.2))) F5 H5 ∧ Fm X.prog X.w X.K F0 H0 (wipeR ρ1 vs1) (L2.wipe σ1 vs1) F5 H5 ∧ Same F4 F5 ∧ Stp F1 H1 F5 H5 ∧ H5 D = some (.lst vs5) ∧ F5 D = none ∧ RepsX X F5 (((xs.take i).flatMap fun a => ys.map (f a)) ++ (ys.take (jj + 1)).map (f xs[i])) vs5, ?_, ?_⟩
        · rintro H' ⟨F5, vs5, r⟩
          exact ⟨kk, Nat.lt_succ_self _, F5, vs5, by omega, r⟩
        · intro x6 H6 y6
          obtain ⟨d6, F6, ed6, s6, rx6⟩ := wk1.yields jj H5 x6 H6 F5 (by rw [List.length_map]; exact hltj) sm5 Ei.sub y6
          rw [List.getElem?_map, List.getElem?_eq_getElem hltj] at ed6
          cases ed6
          intro q6
          refine hin ys[jj] (List.getElem_mem hltj) q6 _ F6 H6 x6 _ (Ei.stp s6) rx6 fun ρ2 σ2 pr2 E6 ch2 => ⟨wipe_chg ch2 hns1, ?_⟩
          dsimp only [L2.tYes]
          rw [if_pos rfl]
          intro q7
          refine pr2 q7 σ2 F6 H6 _ E6 fun dv v F7 H7 pv s7 rv => ?_
          subst pv
          have st7 := (st5.trans s6).trans s7
          have hD7 : H7 D = some (.lst vs5) := s7.hh _ _ (s6.hh _ _ hD5)
          have fD7 : F7 D = none := s7.out _ _ (s6.hh _ _ hD5) (s6.out _ _ hD5 fD5)
          have hl5 : vs5.length ≤ xs.length * ys.length := by
            rw [← ra5.length, List.length_append, List.length_map, List.length_take]
            have h1 := hfl (i + 1)
            rw [List.take_succ, List.getElem?_eq_getElem hlt, Option.toList_some, List.flatMap_append, List.length_append] at h1
            simp only [List.flatMap_cons, List.flatMap_nil, List.append_nil, List.length_map] at h1
            omega
          have hltz : vs5.length < sizeLine := by rw [sizeLine_eq]; omega
          refine ⟨vs5, hD7, hltz, F7, vs5 ++ [v], ((Eo.stp s6).stp s7).put fD7 h0D apart, ((Ei.stp s6).stp s7).put fD7 h0D (noOwn_ap hno1), sm5.trans (s6.ff.trans s7.ff), stput st7 fD7, upd_same, fD7, ?_⟩
          have e7 : ((xs.take i).flatMap fun a => ys.map (f a)) ++ (ys.take (jj + 1)).map (f xs[i]) = (((xs.take i).flatMap fun a => ys.map (f a)) ++ (ys.take jj).map (f xs[i])) ++ [f xs[i] ys[jj]] := by
            rw [List.take_succ, List.getElem?_eq_getElem hltj, Option.toList_some, List.map_append, List.append_assoc]; rfl
          rw [e7]
          exact (ra5.mono (s6.ff.trans s7.ff)).append (.cons rv .nil)
end
theorem noOwn_of {ρ : Rho} (h : (ρ.all fun s => !s.isOwn) = true) : ∀ s ∈ ρ, s.isOwn = false := fun s hs => by
  have := List.all_eq_true.mp h s hs
  simpa using this
section
variable {X : Cx} {F0 H0 : Hp} {ρ ρ' : Rho} {N L A G : List Str} {k n : Nat} {nx : Rho → Prop} {rt : D → Prop} {sts : List Stmt} {scope : Scope} {q : Bq} {tg iter : Expr} {PL : List D → Prop}
/-- a slot is forgotten -/
theorem wb_drop (p : Pt ρ n .no ρ') (h : WB X F0 H0 ρ' sts nx rt) : WB X F0 H0 ρ sts nx rt := fun σ F H E0 E k1 k2 => by
  have e := p.eq
  subst e
  exact h σ F H E0 E.dropR k1 k2
theorem wi_in (C : Cxt X N L A G k) (L' A' G' : List Str) (hL : okL scope L' = true) (hA : (A'.all fun x => inKind scope [.local] x) = true) (hG : okG scope G' = true) (h : Cxt (q.cx X scope) N L' A' G' k → WI (q.cx X scope) F0 H0 ρ tg iter PL) : WI (q.cx X scope) F0 H0 ρ tg iter PL := h (cxt_q C q hL hA hG)
end
end W3
end
section
set_option Elab.async false
set_option linter.all false
set_option maxRecDepth 100000
set_option maxHeartbeats 1000000
/-! MB: the model's data: what the lookups answer. -/
namespace W3
open PySem PySem.Spec PyProof.Rows L2 Pl

abbrev e2 (t : Nat × Nat) : D := .tup [eN t.1, eN t.2]
theorem dk_two (p : Plan) (s : Nat) : dkGet (rD p.rows) (s : Int) = (p.two s).map e2 := by
  unfold Plan.two dkGet rD
  induction p.rows with
  | nil => rfl
  | cons r rows ih =>
    rw [List.map_cons, List.find?_cons, List.find?_cons]
    by_cases h : r.1 = s
    · have h' : (((r.1 : Nat) : Int) = (s : Int)) := by exact_mod_cast h
      rw [decide_eq_true h', decide_eq_true h]; rfl
    · have h' : ¬ (((r.1 : Nat) : Int) = (s : Int)) := by exact_mod_cast h
      rw [decide_eq_false h', decide_eq_false h]; exact ih
theorem rD_keys (p : Plan) : (rD p.rows).map (·.1) = p.rows.map fun r => ((r.1 : Nat) : Int) := by
  unfold rD; rw [List.map_map]; rfl
theorem rD_nodup {p : Plan} (ok : p.Ok) : ((rD p.rows).map (·.1)).Nodup := by
  rw [rD_keys]
  have h := ok.up
  rw [List.pairwise_map] at h
  rw [List.Nodup, List.pairwise_map]
  exact h.imp fun {a b} hab => by
    intro e
    have : a.1 = b.1 := by exact_mod_cast e
    omega
theorem rows_dk (p : Plan) : rowsD (rD p.rows) = p.rows.map fun r => D.tup [eN r.1, e2 r.2] := by
  unfold rowsD rD; rw [List.map_map]; rfl
theorem two_mem {p : Plan} {s : Nat} {t : Nat × Nat} (h : p.two s = some t) : (s, t) ∈ p.rows := by
  unfold Plan.two at h
  obtain ⟨r, hr, rfl⟩ := Option.map_eq_some_iff.mp h
  have h1 := List.find?_some hr
  have h2 := List.mem_of_find?_eq_some hr
  have e : r.1 = s := by simpa using h1
  rw [← e]; exact h2
theorem two_lt {p : Plan} (ok : p.Ok) {s : Nat} {t : Nat × Nat} (h : p.two s = some t) : t.1 < s ∧ t.2 < s ∧ s < p.n := by
  have h1 := ok.row _ (two_mem h)
  exact ⟨h1.2.1, h1.2.2.1, h1.1⟩
end W3
namespace Pl
namespace Plan
theorem bareF_eq {p : Plan} (lt : ∀ s t, p.two s = some t → t.1 < s ∧ t.2 < s) : ∀ (f g s : Nat), s < f → s < g → p.bareF f s = p.bareF g s
  | 0, _, _, h, _ => absurd h (Nat.not_lt_zero _)
  | _, 0, _, _, h => absurd h (Nat.not_lt_zero _)
  | f + 1, g + 1, s, h1, h2 => by
    unfold bareF
    cases e : p.two s with
    | none => rfl
    | some t =>
      have := lt s t e
      show p.bareF f t.1 ++ p.bareF f t.2 = p.bareF g t.1 ++ p.bareF g t.2
      rw [bareF_eq lt f g t.1 (by omega) (by omega), bareF_eq lt f g t.2 (by omega) (by omega)]
theorem bare_none {p : Plan} {s : Nat} (h : p.two s = none) : p.bare s = [s] := by unfold bare bareF; rw [h]
theorem bare_some {p : Plan} (lt : ∀ s t, p.two s = some t → t.1 < s ∧ t.2 < s) {s : Nat} {t : Nat × Nat} (h : p.two s = some t) : p.bare s = p.bare t.1 ++ p.bare t.2 := by
  have := lt s t h
  show p.bareF (s + 1) s = _
  unfold bareF
  rw [h]
  show p.bareF s t.1 ++ p.bareF s t.2 = _
  rw [bareF_eq lt s (t.1 + 1) t.1 (by omega) (by omega), bareF_eq lt s (t.2 + 1) t.2 (by omega) (by omega)]
  rfl
end Plan
end Pl
namespace W3
open PySem PySem.Spec PyProof.Rows L2 Pl
theorem two_lts {p : Plan} (ok : p.Ok) : ∀ s t, p.two s = some t → t.1 < s ∧ t.2 < s := fun s t h => ⟨(two_lt ok h).1, (two_lt ok h).2.1⟩
theorem bare_lt {p : Plan} (ok : p.Ok) : ∀ (m s : Nat), s < m → s < p.n → ∀ x ∈ p.bare s, x < p.n
  | 0, _, h, _, _, _ => absurd h (Nat.not_lt_zero _)
  | m + 1, s, h, hn, x, hx => by
    cases e : p.two s with
    | none => rw [Plan.bare_none e] at hx; rw [List.mem_singleton.mp hx]; exact hn
    | some t =>
      have := two_lt ok e
      rw [Plan.bare_some (two_lts ok) e] at hx
      rcases List.mem_append.mp hx with hx | hx
      · exact bare_lt ok m t.1 (by omega) (by omega) x hx
      · exact bare_lt ok m t.2 (by omega) (by omega) x hx
theorem bare_len {p : Plan} (ok : p.Ok) : ∀ (m s : Nat), s < m → (p.bare s).length ≤ 2 ^ s ∧ 0 < (p.bare s).length
  | 0, _, h => absurd h (Nat.not_lt_zero _)
  | m + 1, s, h => by
    cases e : p.two s with
    | none => rw [Plan.bare_none e]; exact ⟨Nat.one_le_two_pow, Nat.one_pos⟩
    | some t =>
      have hl := two_lt ok e
      have h1 := bare_len ok m t.1 (by omega)
      have h2 := bare_len ok m t.2 (by omega)
      rw [Plan.bare_some (two_lts ok) e, List.length_append]
      have a1 : 2 ^ t.1 ≤ 2 ^ (s - 1) := Nat.pow_le_pow_right (by omega) (by omega)
      have a2 : 2 ^ t.2 ≤ 2 ^ (s - 1) := Nat.pow_le_pow_right (by omega) (by omega)
      have a3 : 2 ^ s = 2 * 2 ^ (s - 1) := by rw [← Nat.pow_succ']; congr 1; omega
      omega
theorem bare_few {p : Plan} (ok : p.Ok) {s : Nat} (h : s < p.n) : (p.bare s).length ≤ 8 := by
  have h1 := (bare_len ok (s + 1) s (Nat.lt_succ_self _)).1
  have h2 : s ≤ 3 := by have := ok.few; have : s < p.cls.length := h; omega
  have h3 : 2 ^ s ≤ 2 ^ 3 := Nat.pow_le_pow_right (by omega) h2
  omega
theorem c_le {p : Plan} (ok : p.Ok) (x : Nat) : p.c x ≤ 2 := by
  unfold Plan.c
  rw [List.getD_eq_getElem?_getD]
  cases h : p.cls[x]? with
  | none => exact Nat.zero_le _
  | some v => exact ok.cl v (List.mem_of_getElem? h)
theorem line_big : 1000000 ≤ sizeLine := by rw [sizeLine_eq]; decide
theorem pw_few : ∀ (xs : List Nat) (lo n : Nat), xs.Pairwise (· < ·) → (∀ x ∈ xs, lo ≤ x ∧ x < n) → xs.length ≤ n - lo
  | [], _, _, _, _ => Nat.zero_le _
  | x :: xs, lo, n, h, hb => by
    rw [List.pairwise_cons] at h
    have h1 := hb x List.mem_cons_self
    have h2 := pw_few xs (x + 1) n h.2 fun y hy => ⟨h.1 y hy, (hb y (List.mem_cons_of_mem _ hy)).2⟩
    rw [List.length_cons]; omega
theorem rows_few {p : Plan} (ok : p.Ok) : p.rows.length ≤ 4 := by
  have h := pw_few (p.rows.map (·.1)) 0 p.cls.length ok.up fun x hx => by
    obtain ⟨r, hr, rfl⟩ := List.mem_map.mp hx
    exact ⟨Nat.zero_le _, (ok.row r hr).1⟩
  rw [List.length_map] at h
  have := ok.few; omega
theorem shut_few {p : Plan} (ok : p.Ok) : p.shut.length ≤ 4 := by
  have h := pw_few p.shut 0 p.cls.length ok.sup fun x hx => by
    obtain ⟨r, hr, rfl⟩ := List.mem_map.mp (ok.sin x hx)
    exact ⟨Nat.zero_le _, (ok.row r hr).1⟩
  have := ok.few; omega
theorem isL_T (xs : List Nat) : IsL (.lst (xs.map eN)) (kT xs) := ⟨by
    rw [ofKs_map]; unfold kT; rw [List.map_map]
    exact congrArg D.lst (List.map_congr_left fun x _ => (ofK_kN x).symm), fun k hk => by
    obtain ⟨x, _, rfl⟩ := List.mem_map.mp hk
    rw [dep_kN]; omega, fun k hk => by
    obtain ⟨x, _, rfl⟩ := List.mem_map.mp hk
    rfl⟩
theorem isL_nil : IsL (.lst []) [] := ⟨rfl, (fun _ h => nomatch h), (fun _ h => nomatch h)⟩
abbrev iN (xs : List Nat) : List Int := xs.map fun y : Nat => (y : Int)
theorem map_iN (xs : List Nat) : eT xs = .tup ((iN xs).map D.int) := by rw [List.map_map]; rfl
theorem mem_iN (x : Nat) (xs : List Nat) : decide ((x : Int) ∈ iN xs) = decide (x ∈ xs) := by
  rw [Bool.eq_iff_iff, decide_eq_true_eq, decide_eq_true_eq, List.mem_map]
  constructor
  · rintro ⟨y, hy, e⟩
    have : y = x := by exact_mod_cast e
    rw [← this]; exact hy
  · intro hx; exact ⟨_, hx, rfl⟩
theorem dec_pair (t : Nat × Nat) (a b : Nat) : decide (NestedKey.tup (kT [t.1, t.2]) = NestedKey.tup (kT [a, b])) = decide (t = (a, b)) := by
  rw [dec_T, Bool.eq_iff_iff, decide_eq_true_eq, decide_eq_true_eq]
  constructor
  · intro h; injection h with h1 h2; injection h2 with h2; exact Prod.ext h1 h2
  · intro h; rw [h]
theorem le_line {n : Nat} (h : n ≤ 1000000) : n ≤ sizeLine := Nat.le_trans h line_big
/-- -e -/
theorem wd_neg {X : Cx} {F0 H0 : Hp} {ρ : Rho} {e : Expr} {P : D → Prop} {pos : Pos} (h : WD X F0 H0 ρ e fun d => ∃ i, d = .int i ∧ P (.int (-i))) : WD X F0 H0 ρ (.UnaryOp .USub e pos) P := fun σ F H Q E kk =>
  run_pe (pe_un un_neg pe_run) (h σ F H _ E fun d v F1 H1 p s r => by
    obtain ⟨i, rfl, p⟩ := p
    cases r
    exact ⟨i, rfl, kk _ _ F1 H1 p s (.int _)⟩)
/-- a standing that the table can have -/
structure SOk (p : Plan) (s : Stg) : Prop where
  b : ∀ b, s.1 = some b → b < p.n
  m : ∀ x ∈ s.2, x < p.n
  l : s.2.length ≤ 2
theorem first_ok (p : Plan) : SOk p Plan.first := ⟨(fun _ h => nomatch h), (fun _ h => nomatch h), Nat.zero_le _⟩
theorem joined_lt {p : Plan} (ok : p.Ok) {a b l : Nat} (h : p.joined a b = some l) : l < p.n := by
  unfold Plan.joined at h
  obtain ⟨r, hr, rfl⟩ := Option.map_eq_some_iff.mp h
  exact (ok.row r (List.mem_of_find?_eq_some hr)).1
/-- the sign under way and what is kept -/
structure HOk (p : Plan) (q : Nat × List Nat) : Prop where
  b : q.1 < p.n
  m : ∀ x ∈ q.2, x < p.n
theorem hstep_ok {p : Plan} (ok : p.Ok) {j : Bool} {q : Nat × List Nat} {m : Nat} (h : HOk p q) (hm : m < p.n) : HOk p (p.hstep j q m) := by
  have app : HOk p (q.1, q.2 ++ [m]) := ⟨h.b, fun x hx => by
    rcases List.mem_append.mp hx with hx | hx
    · exact h.m x hx
    · rw [List.mem_singleton.mp hx]; exact hm⟩
  unfold Plan.hstep
  split
  · rename_i l e
    split
    · refine ⟨?_, h.m⟩
      cases j with
      | true => exact joined_lt ok (by simpa using e)
      | false => simp at e
    · exact app
  · exact app
theorem hfold_ok {p : Plan} (ok : p.Ok) {j : Bool} : ∀ (ms : List Nat) {q : Nat × List Nat}, HOk p q → (∀ x ∈ ms, x < p.n) → HOk p (ms.foldl (p.hstep j) q)
  | [], q, h, _ => h
  | m :: ms, q, h, hm => hfold_ok ok ms (hstep_ok ok h (hm m List.mem_cons_self)) fun x hx => hm x (List.mem_cons_of_mem _ hx)
theorem hstep_len (p : Plan) (j : Bool) (q : Nat × List Nat) (m : Nat) : (p.hstep j q m).2.length ≤ q.2.length + 1 := by
  unfold Plan.hstep
  split
  · split
    · exact Nat.le_succ _
    · rw [List.length_append]; exact Nat.le_refl _
  · rw [List.length_append]; exact Nat.le_refl _
theorem hfold_len (p : Plan) (j : Bool) : ∀ (ms : List Nat) (q : Nat × List Nat), (ms.foldl (p.hstep j) q).2.length ≤ q.2.length + ms.length
  | [], q => Nat.le_refl _
  | m :: ms, q => by
    have h1 := hfold_len p j ms (p.hstep j q m)
    have h2 := hstep_len p j q m
    rw [List.foldl_cons, List.length_cons]; omega
theorem held_ok {p : Plan} (ok : p.Ok) {j : Bool} {s : Stg} (h : SOk p s) : (p.held j s).length ≤ 3 ∧ ∀ x ∈ p.held j s, x < p.n := by
  unfold Plan.held
  split
  · exact ⟨by have := h.l; omega, h.m⟩
  · rename_i b e
    have h1 := hfold_len p j s.2 (b, [])
    have h2 := hfold_ok (j := j) ok s.2 (q := (b, [])) ⟨h.b b e, (fun _ z => nomatch z)⟩ h.m
    refine ⟨by have := h.l; simp only [List.length_cons, List.length_nil] at h1 ⊢; omega, fun x hx => ?_⟩
    rcases List.mem_cons.mp hx with rfl | hx
    · exact h2.b
    · exact h2.m x hx
theorem withMark_len (p : Plan) (ms : List Nat) (m : Nat) : (p.withMark ms m).length = ms.length + 1 := by
  unfold Plan.withMark
  have h := List.length_filter_le (fun x => decide (p.c x ≤ p.c m)) ms
  rw [List.length_append, List.length_cons, List.length_take, List.length_drop]; omega
theorem withMark_mem {p : Plan} {ms : List Nat} {m x : Nat} (h : x ∈ p.withMark ms m) : x ∈ ms ∨ x = m := by
  unfold Plan.withMark at h
  rcases List.mem_append.mp h with h | h
  · exact .inl (List.mem_of_mem_take h)
  · rcases List.mem_cons.mp h with h | h
    · exact .inr h
    · exact .inl (List.mem_of_mem_drop h)
theorem readBare_ok {p : Plan} (ok : p.Ok) {j : Bool} {s : Stg} {x : Nat} {r : Stg × List Nat} (h : SOk p s) (hx : x < p.n) (e : p.readBare j s x = some r) : SOk p r.1 ∧ r.2.length ≤ 3 ∧ ∀ y ∈ r.2, y < p.n := by
  unfold Plan.readBare at e
  split at e
  · split at e
    · cases e
    · rename_i hl
      cases e
      refine ⟨⟨h.b, fun y hy => ?_, ?_⟩, Nat.zero_le _, (fun _ z => nomatch z)⟩
      · rcases withMark_mem hy with hy | rfl
        · exact h.m y hy
        · exact hx
      · show (p.withMark s.2 x).length ≤ 2
        rw [withMark_len]; have := h.l; omega
  · dsimp only at e
    split at e
    · rename_i l el
      cases e
      refine ⟨⟨fun b eb => ?_, (fun _ z => nomatch z), Nat.zero_le _⟩, Nat.zero_le _, (fun _ z => nomatch z)⟩
      cases eb
      split at el
      · exact joined_lt ok el
      · cases el
    · cases e
      exact ⟨⟨fun b eb => by cases eb; exact hx, (fun _ z => nomatch z), Nat.zero_le _⟩, held_ok ok h⟩
theorem readGo_ok {p : Plan} (ok : p.Ok) {j : Bool} : ∀ {os : List Nat} {s : Stg} {found : List Nat} {r : Stg × List Nat}, SOk p s → (∀ y ∈ found, y < p.n) → (∀ x ∈ os, x < p.n) → p.readGo j s found os = some r → SOk p r.1 ∧ r.2.length ≤ found.length + 3 * os.length ∧ ∀ y ∈ r.2, y < p.n
  | [], s, found, r, h, hf, _, e => by cases e; exact ⟨h, Nat.le_refl _, hf⟩
  | o :: os, s, found, r, h, hf, ho, e => by
    unfold Plan.readGo at e
    split at e
    · cases e
    · rename_i q eq
      obtain ⟨h1, h2, h3⟩ := readBare_ok ok h (ho o List.mem_cons_self) eq
      obtain ⟨g1, g2, g3⟩ := readGo_ok ok h1 (fun y hy => by
        rcases List.mem_append.mp hy with hy | hy
        · exact hf y hy
        · exact h3 y hy) (fun x hx => ho x (List.mem_cons_of_mem _ hx)) e
      rw [List.length_append] at g2
      rw [List.length_cons]
      exact ⟨g1, by omega, g3⟩
theorem readSign_ok {p : Plan} (ok : p.Ok) {j : Bool} {s : Stg} {x : Nat} {r : Stg × List Nat} (h : SOk p s) (hx : x < p.n) (e : p.readSign j s x = some r) : SOk p r.1 ∧ r.2.length ≤ 24 ∧ ∀ y ∈ r.2, y < p.n := by
  obtain ⟨h1, h2, h3⟩ := readGo_ok ok h (found := []) (fun y hy => by cases hy) (fun y hy => bare_lt ok (x + 1) x (Nat.lt_succ_self _) hx y hy) e
  have := bare_few ok hx
  rw [List.length_nil] at h2
  exact ⟨h1, by omega, h3⟩
theorem MtT.imp {M : Md} {C : Addr} {m : Str} {k n : Nat} {Cc Cc' : Ct} (T : MtT M.P M.w M.K M.mg M.base C m k n Cc) (h : ∀ ds R, Cc' ds R → Cc ds R) : MtT M.P M.w M.K M.mg M.base C m k n Cc' := by
  obtain ⟨cl, f, fd, ps, hm, hb, F⟩ := T
  refine ⟨cl, f, fd, ps, hm, hb, F.imp fun vs H Q E hs => ?_⟩
  obtain ⟨F', ds, R, s, r, hl, hc, kk⟩ := hs
  exact ⟨F', ds, R, s, r, hl, h ds R hc, kk⟩
end W3
end
section
set_option Elab.async false
set_option linter.all false
set_option maxRecDepth 100000
set_option maxHeartbeats 1000000
/-! MC: the plain model: the searches. -/
namespace Pl
namespace Plan
variable (p : Plan)
abbrev Fnd := List (Stg × List Nat)
def getT (found : Fnd) (s : Stg) : List Nat := ((found.find? fun e => decide (e.1 = s)).map (·.2)).getD []
def sAdd (j : Bool) (s : Stg) (q : Fnd × List Stg) (x : Nat) : Fnd × List Stg := match p.readSign j s x with
  | none => q
  | some r => if r.1 ∈ q.1.map (·.1) then q else (q.1 ++ [(r.1, getT q.1 s ++ [x])], q.2 ++ [r.1])
def sGo (j : Bool) : Nat → Fnd → List Stg → Fnd
  | 0, found, _ => found
  | _ + 1, found, [] => found
  | f + 1, found, s :: line => let q := (List.range p.n).foldl (p.sAdd j s) (found, line); sGo j f q.1 q.2
/-- more than there are standings -/
def bS : Nat := 105
def standings (j : Bool) : Fnd := p.sGo j bS [(first, [])] [first]
/-- a seam, with the texts that led to it -/
abbrev Ent := Seam × List Nat × List Nat
def eLen (e : Ent) : Nat := e.2.1.length + e.2.2.length
def jAdd (j : Bool) (e : Ent) : List Seam × List Ent → List Nat → (List Seam × List Ent) ⊕ (List Nat × List Nat)
  | q, [] => .inl q
  | q, x :: xs => match p.behind j e.1 x with
    | none => jAdd j e q xs
    | some none => .inr (e.2.1, e.2.2 ++ [x])
    | some (some r) => if r ∈ q.1 then jAdd j e q xs else jAdd j e (q.1 ++ [r], q.2 ++ [(r, e.2.1, e.2.2 ++ [x])]) xs
def minL : List Nat → Nat
  | [] => 0
  | [x] => x
  | x :: xs => min x (minL xs)
def pick (line : List Ent) : Nat := (line.map eLen).idxOf (minL (line.map eLen))
def signs (start : Nat) (other : List Nat) : List Nat := if other ≠ [] then List.range p.n else [start]
def jGo (j : Bool) (start : Nat) : Nat → List Seam → List Ent → List Seam ⊕ (List Nat × List Nat)
  | 0, found, _ => .inl found
  | f + 1, found, line => match line[pick line]? with
    | none => .inl found
    | some e => match p.jAdd j e (found, line.eraseIdx (pick line)) (p.signs start e.2.2) with
      | .inr b => .inr b
      | .inl q => jGo j start f q.1 q.2
def begins (j : Bool) (start : Nat) : List Ent := ((p.standings j).map fun e => (p.cutAt j e.1, e.2, ([] : List Nat))).filter fun e => (p.behind j e.1 start).isSome
def bJ : Nat := 11025
def judged (j : Bool) (start : Nat) : List Seam ⊕ (List Nat × List Nat) := p.jGo j start ((p.begins j start).length + bJ) [] (p.begins j start)
end Plan
/-! ### how many there are -/
theorem nodup_len {α : Type} [DecidableEq α] : ∀ {xs ys : List α}, xs.Nodup → (∀ x ∈ xs, x ∈ ys) → xs.length ≤ ys.length
  | [], _, _, _ => Nat.zero_le _
  | x :: xs, ys, h, hs => by
    rw [List.nodup_cons] at h
    have hx := hs x List.mem_cons_self
    have h1 := nodup_len (ys := ys.erase x) h.2 fun y hy => by
      have ne : y ≠ x := fun e => h.1 (e ▸ hy)
      exact (List.mem_erase_of_ne ne).mpr (hs y (List.mem_cons_of_mem _ hy))
    have h2 := List.length_erase_of_mem hx
    have h3 := List.length_pos_of_mem hx
    rw [List.length_cons]; omega
def allM (n : Nat) : List (List Nat) := [] :: ((List.range n).map (fun a => [a]) ++ (List.range n).flatMap fun a => (List.range n).map fun b => [a, b])
def allS (n : Nat) : List Stg := (none :: (List.range n).map some).flatMap fun b => (allM n).map fun m => (b, m)
theorem allS_len : ∀ n, n ≤ 4 → (allS n).length ≤ 105
  | 0, _ => by decide
  | 1, _ => by decide
  | 2, _ => by decide
  | 3, _ => by decide
  | 4, _ => by decide
  | n + 5, h => by omega
end Pl
namespace W3
open Pl
theorem allS_mem {p : Plan} {s : Stg} (h : SOk p s) : s ∈ allS p.n := by
  obtain ⟨b, m⟩ := s
  refine List.mem_flatMap.mpr ⟨b, ?_, List.mem_map.mpr ⟨m, ?_, rfl⟩⟩
  · cases b with
    | none => exact List.mem_cons_self
    | some b => exact List.mem_cons_of_mem _ (List.mem_map.mpr ⟨b, List.mem_range.mpr (h.b b rfl), rfl⟩)
  · match m, h.m, h.l with
    | [], _, _ => exact List.mem_cons_self
    | [a], hm, _ => exact List.mem_cons_of_mem _ (List.mem_append_left _ (List.mem_map.mpr ⟨a, List.mem_range.mpr (hm a List.mem_cons_self), rfl⟩))
    | [a, b'], hm, _ => exact List.mem_cons_of_mem _ (List.mem_append_right _ (List.mem_flatMap.mpr ⟨a, List.mem_range.mpr (hm a List.mem_cons_self), List.mem_map.mpr ⟨b', List.mem_range.mpr (hm b' (List.mem_cons_of_mem _ List.mem_cons_self)), rfl⟩⟩))
    | _ :: _ :: _ :: _, _, hl => simp at hl
theorem stg_few {p : Plan} (ok : p.Ok) {xs : List Stg} (nd : xs.Nodup) (h : ∀ s ∈ xs, SOk p s) : xs.length ≤ Plan.bS :=
  Nat.le_trans (nodup_len nd fun s hs => allS_mem (h s hs)) (allS_len p.n ok.few)
/-- a seam that the search can meet -/
structure EOk (p : Plan) (j : Bool) (m : Seam) : Prop where
  a : SOk p m.1
  b : SOk p m.2.1
  e : p.isEven j m = true
theorem EOk.len {p : Plan} (ok : p.Ok) {j : Bool} {m : Seam} (h : EOk p j m) : m.2.2.length ≤ 3 := by
  have h1 := (held_ok (j := j) ok h.a).1
  have h2 : p.held j m.1 = m.2.2 ++ p.held j m.2.1 := by simpa [Plan.isEven] using h.e
  rw [h2, List.length_append] at h1; omega
theorem seam_few {p : Plan} (ok : p.Ok) {j : Bool} {xs : List Seam} (nd : xs.Nodup) (h : ∀ m ∈ xs, EOk p j m) : xs.length ≤ Plan.bJ := by
  have hinj : ∀ a ∈ xs, ∀ b ∈ xs, (a.1, a.2.1) = (b.1, b.2.1) → a = b := fun a ha b hb e => by
    have e1 : p.held j a.1 = a.2.2 ++ p.held j a.2.1 := by simpa [Plan.isEven] using (h a ha).e
    have e2 : p.held j b.1 = b.2.2 ++ p.held j b.2.1 := by simpa [Plan.isEven] using (h b hb).e
    injection e with h1 h2
    rw [h1, h2, e2] at e1
    exact Prod.ext h1 (Prod.ext h2 (List.append_cancel_right e1).symm)
  have nd2 : (xs.map fun m => (m.1, m.2.1)).Nodup := by
    rw [List.Nodup, List.pairwise_map]
    refine List.Pairwise.imp_of_mem (fun {a b} ha hb hab e => hab (hinj a ha b hb e)) nd
  have h2 := nodup_len (ys := (allS p.n).flatMap fun a => (allS p.n).map fun b => (a, b)) nd2 fun q hq => by
    obtain ⟨m, hm, rfl⟩ := List.mem_map.mp hq
    exact List.mem_flatMap.mpr ⟨m.1, allS_mem (h m hm).a, List.mem_map.mpr ⟨m.2.1, allS_mem (h m hm).b, rfl⟩⟩
  have h3 := allS_len p.n ok.few
  have h4 : ((allS p.n).flatMap fun a => (allS p.n).map fun b => (a, b)).length = (allS p.n).length * (allS p.n).length := by
    rw [List.length_flatMap]
    simp only [List.length_map, List.map_const', List.sum_replicate_nat]
  rw [List.length_map, h4] at h2
  have h5 : (allS p.n).length * (allS p.n).length ≤ 105 * 105 := Nat.mul_le_mul h3 h3
  exact Nat.le_trans h2 h5
end W3
end
section
set_option Elab.async false
set_option linter.all false
set_option maxRecDepth 100000
set_option maxHeartbeats 1000000
/-! MD: what the search for seams keeps. -/
namespace W3
open Pl
/-- an entry of the line -/
structure NOk (p : Plan) (j : Bool) (k : Nat) (e : Plan.Ent) : Prop where
  m : EOk p j e.1
  a : ∀ x ∈ e.2.1, x < p.n
  al : e.2.1.length ≤ 105
  b : ∀ x ∈ e.2.2, x < p.n
  bl : e.2.2.length ≤ k
structure JI (p : Plan) (j : Bool) (found : List Seam) (line : List Plan.Ent) : Prop where
  nd : found.Nodup
  ok : ∀ m ∈ found, EOk p j m
  ln : ∀ e ∈ line, NOk p j found.length e
theorem NOk.mono {p : Plan} {j : Bool} {k k' : Nat} {e : Plan.Ent} (h : NOk p j k e) (l : k ≤ k') : NOk p j k' e := ⟨h.m, h.a, h.al, h.b, Nat.le_trans h.bl l⟩
theorem JI.few {p : Plan} (ok : p.Ok) {j : Bool} {found : List Seam} {line : List Plan.Ent} (h : JI p j found line) : found.length ≤ Plan.bJ := seam_few ok h.nd h.ok
theorem behind_E {p : Plan} (ok : p.Ok) {j : Bool} {m r : Seam} {x : Nat} (h : EOk p j m) (hx : x < p.n) (e : p.behind j m x = some (some r)) : EOk p j r := by
  unfold Plan.behind at e
  split at e
  · cases e
  · rename_i f ef
    split at e
    · cases e
    · rename_i g eg
      dsimp only at e
      split at e
      · split at e
        · rename_i hev
          cases e
          exact ⟨(readSign_ok ok h.a hx ef).1, (readSign_ok ok h.b hx eg).1, hev⟩
        · cases e
      · cases e
theorem JI.put {p : Plan} (ok : p.Ok) {j : Bool} {found : List Seam} {line : List Plan.Ent} {e : Plan.Ent} {r : Seam} {x : Nat} (h : JI p j found line) (he : NOk p j found.length e) (hx : x < p.n) (hr : EOk p j r) (hn : r ∉ found) :
    JI p j (found ++ [r]) (line ++ [(r, e.2.1, e.2.2 ++ [x])]) ∧ NOk p j (found ++ [r]).length e := by
  have hl : (found ++ [r]).length = found.length + 1 := by rw [List.length_append]; rfl
  refine ⟨⟨?_, ?_, ?_⟩, he.mono (by omega)⟩
  · rw [List.nodup_append]
    refine ⟨h.nd, by simp, fun a ha b hb e => ?_⟩
    rw [List.mem_singleton] at hb
    rw [e, hb] at ha; exact hn ha
  · intro m hm
    rcases List.mem_append.mp hm with hm | hm
    · exact h.ok m hm
    · rw [List.mem_singleton.mp hm]; exact hr
  · intro e' he'
    rw [hl]
    rcases List.mem_append.mp he' with he' | he'
    · exact (h.ln e' he').mono (Nat.le_succ _)
    · rw [List.mem_singleton.mp he']
      refine ⟨hr, he.a, he.al, fun y hy => ?_, ?_⟩
      · rcases List.mem_append.mp hy with hy | hy
        · exact he.b y hy
        · rw [List.mem_singleton.mp hy]; exact hx
      · have := he.bl
        show (e.2.2 ++ [x]).length ≤ _
        rw [List.length_append, List.length_singleton]; omega
theorem jAdd_ok {p : Plan} (ok : p.Ok) {j : Bool} {e : Plan.Ent} : ∀ (xs : List Nat) {q q' : List Seam × List Plan.Ent}, JI p j q.1 q.2 → NOk p j q.1.length e → (∀ x ∈ xs, x < p.n) → p.jAdd j e q xs = .inl q' → JI p j q'.1 q'.2 ∧ q'.2.length + q.1.length = q.2.length + q'.1.length
  | [], q, q', h, _, _, e0 => by cases e0; exact ⟨h, rfl⟩
  | x :: xs, q, q', h, he, hx, e0 => by
    have hx0 := hx x List.mem_cons_self
    have hxs := fun y hy => hx y (List.mem_cons_of_mem _ hy)
    unfold Plan.jAdd at e0
    cases eb : p.behind j e.1 x with
    | none => rw [eb] at e0; exact jAdd_ok ok xs h he hxs e0
    | some o =>
      rw [eb] at e0
      cases o with
      | none => cases e0
      | some r =>
        dsimp only at e0
        by_cases hm : r ∈ q.1
        · rw [if_pos hm] at e0; exact jAdd_ok ok xs h he hxs e0
        · rw [if_neg hm] at e0
          obtain ⟨h1, h2⟩ := h.put ok he hx0 (behind_E ok he.m hx0 eb) hm
          obtain ⟨g1, g2⟩ := jAdd_ok ok xs (q := (q.1 ++ [r], q.2 ++ [(r, e.2.1, e.2.2 ++ [x])])) h1 h2 hxs e0
          refine ⟨g1, ?_⟩
          rw [List.length_append, List.length_append, List.length_singleton, List.length_singleton] at g2
          omega
theorem minL_mem : ∀ {xs : List Nat}, xs ≠ [] → Plan.minL xs ∈ xs
  | [], h => absurd rfl h
  | [x], _ => List.mem_cons_self
  | x :: y :: xs, _ => by
    have ih := minL_mem (xs := y :: xs) (by simp)
    show min x (Plan.minL (y :: xs)) ∈ _
    by_cases h : x ≤ Plan.minL (y :: xs)
    · rw [Nat.min_eq_left h]; exact List.mem_cons_self
    · rw [Nat.min_eq_right (by omega)]; exact List.mem_cons_of_mem _ ih
theorem minL_le : ∀ {xs : List Nat}, ∀ x ∈ xs, Plan.minL xs ≤ x
  | [], x, h => nomatch h
  | [y], x, h => by rw [List.mem_singleton.mp h]; exact Nat.le_refl _
  | z :: y :: xs, x, h => by
    show min z (Plan.minL (y :: xs)) ≤ x
    rcases List.mem_cons.mp h with rfl | h
    · exact Nat.min_le_left _ _
    · exact Nat.le_trans (Nat.min_le_right _ _) (minL_le x h)
theorem idxOf_iN (xs : List Nat) (x : Nat) : (iN xs).idxOf (x : Int) = xs.idxOf x := by
  induction xs with
  | nil => rfl
  | cons y xs ih =>
    unfold iN at ih ⊢
    rw [List.map_cons, List.idxOf_cons, List.idxOf_cons, ih]
    have : (((y : Nat) : Int) == (x : Int)) = (y == x) := by rw [Bool.eq_iff_iff]; simp; omega
    rw [this]
theorem pick_lt {line : List Plan.Ent} (h : line ≠ []) : Plan.pick line < line.length := by
  unfold Plan.pick
  have h1 : line.map Plan.eLen ≠ [] := by simpa using h
  have h2 := List.idxOf_lt_length_iff.mpr (minL_mem h1)
  rwa [List.length_map] at h2
end W3
end
section
set_option Elab.async false
set_option linter.all false
set_option maxRecDepth 100000
set_option maxHeartbeats 1000000
/-! WA: walks. -/
namespace W3
open PySem PySem.Spec PyProof.Rows L2 Pl

theorem fnT_of {M : Md} {x qual : Str} {pa : Arguments} {bd : List Stmt} {sc : Scope} {kws : List (Str × V)} {f : Addr} {fd : FuncData} {ps : List Str} {k n : Nat} {C : Ct} (hm : M.mg x = some (.ref f)) (Fd : FunD M.K x qual pa bd sc [] kws f fd)
    (hb : ∀ (kV doc pm : Value) (an : Option Addr) (cdv ct : Value) (us : List Value), us.length = ps.length → bindArgs (PySem.W.fnOf x qual pa bd sc .none kV doc pm an cdv ct) ⟨us, []⟩ = pure (ps.zip us))
    (ok : FnOk M.P M.w M.K M.mg M.base CX0 k f fd ps (spC M.P M.w M.K n C)) : M.Fn x k n C := ⟨f, fd, ps, hm, Fd.kp, Fd.bindsN hb, ok⟩

section
variable {M : Md} {CT CS CB : Addr} {f : Addr} {fd : FuncData}

/-! is_number -/
def cNumber : Ct := fun ds R => ∃ x lo hi : Int, ds = [.int x, .int lo, .int hi] ∧ R (.bl (decide (lo ≤ x) && decide (x ≤ hi)))
def nNumber : List Str := ["thing", "low", "high"]
theorem ok_number (fx : Fx M CT CS CB) (Fd : FunD M.K "is_number" "is_number" (defArgs (top 10)) (defBody (top 10)) (defScope (top 10)) [] [] f fd) : FnOk M.P M.w M.K M.mg M.base CX0 1 f fd nNumber (spC M.P M.w M.K 3 cNumber) := by
  refine fn_ok (N := nNumber) nNumber nNumber ["isinstance", "int", "bool"] Fd (C8.fnScope_by (by decide +kernel)) rfl (by decide +kernel) (by decide +kernel) (by decide +kernel) fun q F0 H0 C ds R hl h => ?_
  obtain ⟨x, lo, hi, rfl, h⟩ := h
  refine wb_one (ws_ret (wd_and (wd_isi C mm0 fx.n_isinstance mm1 fx.n_int b_int (wd_var C lk0 mm0 ⟨_, true, rfl, by decide +kernel, _, rfl, ite_t ?_⟩))))
  refine wd_and (wd_not (wd_isi C mm0 fx.n_isinstance mm2 fx.n_bool b_bool (wd_var C lk0 mm0 ⟨_, false, rfl, by decide +kernel, _, rfl, _, rfl, ite_t ?_⟩)))
  refine wd_one (wd_chain od_le od_le (wd_var C lk1 mm1 (wd_var C lk0 mm0 ⟨_, _, rfl, rfl, _, rfl, ite_dec (fun h1 => wd_var C lk2 mm2 ⟨_, _, rfl, rfl, ?_⟩) (fun h1 => ?_)⟩)))
  · rw [decide_eq_true h1, Bool.true_and] at h; exact h
  · rw [decide_eq_false h1, Bool.false_and] at h; exact h

/-! Table: __len__, check_sign, bare, joined -/
def cLen : Ct := fun ds R => ∃ (p : Plan) (CT : Addr), ds = [tabD CT p] ∧ R (.int p.n)
def nSelf : List Str := ["self"]
theorem ok_len (fx : Fx M CT CS CB) (Fd : FunD M.K "__len__" "Table.__len__" (defArgs (meth 15 3)) (defBody (meth 15 3)) (defScope (meth 15 3)) [] [] f fd) : FnOk M.P M.w M.K M.mg M.base CX0 1 f fd nSelf (spC M.P M.w M.K 1 fun ds R => ∃ p, ds = [tabD CT p] ∧ R (.int p.n)) := by
  refine fn_ok (N := nSelf) nSelf nSelf ["len"] Fd (C8.fnScope_by (by decide +kernel)) rfl (by decide +kernel) (by decide +kernel) (by decide +kernel) fun q F0 H0 C ds R hl h => ?_
  obtain ⟨p, rfl, h⟩ := h
  refine wb_one (ws_ret (wd_callB cd_lenT C mm0 fx.n_len b_len (wa_cons (wd_fld (wd_var C lk0 mm0 ⟨_, _, _, rfl, fx.cT, fx.aT _ mm0, rfl, wa_nil ⟨_, rfl, ?_⟩⟩)))))
  rw [List.length_map]; exact h
def nCheck : List Str := ["self", "sign"]
def cCheck (CT : Addr) : Ct := fun ds R => ∃ (p : Plan) (x : Nat), ds = [tabD CT p, eN x] ∧ x < p.n ∧ R .non
theorem ok_check (fx : Fx M CT CS CB) (Tn : M.Fn "is_number" 1 3 cNumber) (Fd : FunD M.K "check_sign" "Table.check_sign" (defArgs (meth 15 7)) (defBody (meth 15 7)) (defScope (meth 15 7)) [] [] f fd) : FnOk M.P M.w M.K M.mg M.base CX0 2 f fd nCheck (spC M.P M.w M.K 2 (cCheck CT)) := by
  refine fn_ok (N := nCheck) nCheck nCheck ["is_number", "len"] Fd (C8.fnScope_by (by decide +kernel)) rfl (by decide +kernel) (by decide +kernel) (by decide +kernel) fun q F0 H0 C ds R hl h => ?_
  obtain ⟨p, x, rfl, hx, h⟩ := h
  refine wb_one (ws_if (wt_not (wt_val (wd_fn Tn (Nat.le_refl 1) C mm0 (wa_cons (wd_var C lk1 mm1 (wa_cons (wd_int (wa_cons (wd_op od_sub (wd_callB cd_lenT C mm1 fx.n_len b_len (wa_cons (wd_fld (wd_var C lk0 mm0 ⟨_, _, _, rfl, fx.cT, fx.aT _ mm0, rfl, wa_nil ⟨_, rfl, wd_int ⟨_, _, rfl, rfl, wa_nil ⟨rfl, _, _, _, rfl, _, rfl, ?_⟩⟩⟩⟩))))))))))))))
  have e : (decide ((0 : Int) ≤ (x : Int)) && decide ((x : Int) ≤ ((p.cls.map eN).length : Int) - 1)) = true := by
    rw [List.length_map, Bool.and_eq_true, decide_eq_true_eq, decide_eq_true_eq]
    have : x < p.cls.length := hx
    omega
  rw [e]
  exact wb_nil h
/-! bare -/
def nBare : List Str := ["self", "sign", "two"]
def cBare (CT : Addr) (m : Nat) : Ct := fun ds R => ∃ (p : Plan) (x : Nat), ds = [tabD CT p, eN x] ∧ p.Ok ∧ x < p.n ∧ x < m ∧ R (eT (p.bare x))
theorem ok_bare (fx : Fx M CT CS CB) {m : Nat} (Tc : MtT M.P M.w M.K M.mg M.base CT "check_sign" 2 2 (cCheck CT)) (Tb : MtT M.P M.w M.K M.mg M.base CT "bare" (2 + m) 2 (cBare CT m)) (Fd : FunD M.K "bare" "Table.bare" (defArgs (meth 15 8)) (defBody (meth 15 8)) (defScope (meth 15 8)) [] [] f fd) : FnOk M.P M.w M.K M.mg M.base CX0 (3 + m) f fd nCheck (spC M.P M.w M.K 2 (cBare CT (m + 1))) := by
  rw [show 3 + m = (2 + m) + 1 by omega]
  refine fn_ok (N := nBare) nBare nBare ["dict"] Fd (C8.fnScope_by (by decide +kernel)) rfl (by decide +kernel) (by decide +kernel) (by decide +kernel) fun q F0 H0 C ds R hl h => ?_
  obtain ⟨p, x, rfl, ok, hx, hm, h⟩ := h
  refine wb_cons (ws_drop (wd_meth Tc (by omega) C (wd_var C lk0 mm0 ⟨_, rfl, rfl, wa_cons (wd_var C lk1 mm1 (wa_nil ⟨rfl, _, _, rfl, hx, ?_⟩))⟩)))
  refine wb_cons (ws_set C lk2 mm2 (wv_d (wd_getRows C mm0 fx.n_dict (wd_fld (wd_var C lk0 mm0 ⟨_, _, _, rfl, fx.cT, fx.aT _ mm1, rfl, _, rfl, rD_nodup ok, wd_var C lk1 mm1 ⟨_, rfl, _, pt2, ?_⟩⟩)))))
  rw [dk_two]
  cases e : p.two x with
  | none =>
    rw [Plan.bare_none e] at h
    exact wb_one (ws_ret (wd_ifexp (wt_cmp od_isN (wd_var C lk2 mm2 (wd_non ⟨rfl, _, rfl, ite_t (wd_tup (wa_cons (wd_var C lk1 mm1 (wa_nil ⟨by have := line_big; show 1 ≤ _; omega, h⟩))))⟩)))))
  | some t =>
    have hl := two_lt ok e
    rw [Plan.bare_some (two_lts ok) e] at h
    have hb1 := bare_few ok (s := t.1) (by omega)
    have hb2 := bare_few ok (s := t.2) (by omega)
    refine wb_one (ws_ret (wd_ifexp (wt_cmp od_isN (wd_var C lk2 mm2 (wd_non ⟨rfl, _, rfl, ite_f (wd_tup (wa_star (wd_meth Tb (Nat.le_refl _) C (wd_var C lk0 mm0 ⟨_, rfl, rfl, wa_cons (wd_ix xd_tup (wd_var C lk2 mm2 (wd_int ⟨_, _, _, rfl, rfl, at_0, wa_nil ⟨rfl, _, _, rfl, ok, by omega, by omega, _, rfl, ?_⟩⟩)))⟩))))⟩)))))
    refine wa_star (wd_meth Tb (Nat.le_refl _) C (wd_var C lk0 mm0 ⟨_, rfl, rfl, wa_cons (wd_ix xd_tup (wd_var C lk2 mm2 (wd_int ⟨_, _, _, rfl, rfl, at_1, wa_nil ⟨rfl, _, _, rfl, ok, by omega, by omega, _, rfl, wa_nil ⟨?_, ?_⟩⟩⟩)))⟩))
    · have := line_big
      simp only [List.length_append, List.length_map, List.length_nil]; omega
    · rw [List.append_nil, ← List.map_append]; exact h
/-! joined -/
def nJoined : List Str := ["self", "one", "other", "some", "sign", "two"]
def cJoined (CT : Addr) : Ct := fun ds R => ∃ (p : Plan) (a b : Nat), ds = [tabD CT p, eN a, eN b] ∧ p.Ok ∧ a < p.n ∧ b < p.n ∧ R (eO (p.joined a b))
theorem ok_joined (fx : Fx M CT CS CB) (Tc : MtT M.P M.w M.K M.mg M.base CT "check_sign" 2 2 (cCheck CT)) (Fd : FunD M.K "joined" "Table.joined" (defArgs (meth 15 9)) (defBody (meth 15 9)) (defScope (meth 15 9)) [] [] f fd) : FnOk M.P M.w M.K M.mg M.base CX0 3 f fd ["self", "one", "other"] (spC M.P M.w M.K 3 (cJoined CT)) := by
  refine fn_ok (N := nJoined) ["self", "one", "other", "some"] ["self", "one", "other", "some"] [] Fd (C8.fnScope_by (by decide +kernel)) rfl (by decide +kernel) (by decide +kernel) (by decide +kernel) fun q F0 H0 C ds R hl h => ?_
  obtain ⟨p, a, b, rfl, ok, ha, hb, h⟩ := h
  refine wb_cons (ws_drop (wd_meth Tc (by omega) C (wd_var C lk0 mm0 ⟨_, rfl, rfl, wa_cons (wd_var C lk1 mm1 (wa_nil ⟨rfl, _, _, rfl, ha, ?_⟩))⟩)))
  refine wb_cons (ws_drop (wd_meth Tc (by omega) C (wd_var C lk0 mm0 ⟨_, rfl, rfl, wa_cons (wd_var C lk2 mm2 (wa_nil ⟨rfl, _, _, rfl, hb, ?_⟩))⟩)))
  have hrl : p.rows.length ≤ sizeLine := by have h1 := rows_few ok; have h2 := line_big; omega
  have lo : (defScope (meth 15 9)).names.lookup ("some" : Str) = some .local := by decide +kernel
  refine wb_cons (ws_c (own := [("sign", 4), ("two", 5)]) (ns := [4, 5]) C lk3 lo (blkOk_by (show blkC nJoined (defScope (meth 15 9)) _ _ = true by decide +kernel)) (by decide) (sw_true rfl lo rfl rfl) (wi_tup (wd_ofP (wd_fld (wd_var C lk0 mm0 ⟨_, _, _, rfl, fx.cT, fx.aT _ mm1, rfl, _, rfl, _, rfl, ?_⟩)))))
  rw [rows_dk]
  refine lc_filt p.rows _ (fun r => decide (r.2 = (a, b)) && !decide (r.1 ∈ p.shut)) (fun r => eN r.1) hrl ⟨_, pt3, ?_⟩ fun r hr q => ?_
  · have ej : p.joined a b = ((p.rows.filter fun r => decide (r.2 = (a, b)) && !decide (r.1 ∈ p.shut)).map (·.1)).head? := by
      unfold Plan.joined
      rw [← List.head?_filter, List.head?_map]
    have ed : (p.rows.filter fun r => decide (r.2 = (a, b)) && !decide (r.1 ∈ p.shut)).map (fun r => eN r.1) = ((p.rows.filter fun r => decide (r.2 = (a, b)) && !decide (r.1 ∈ p.shut)).map (·.1)).map eN := by rw [List.map_map]; rfl
    rw [ed]
    generalize ((p.rows.filter fun r => decide (r.2 = (a, b)) && !decide (r.1 ∈ p.shut)).map (·.1)) = xs at ej
    refine wb_frzL pt3 pt3 ?_
    refine wb_one (ws_ret (wd_ifexp (wt_cmp (od_neL C) (wd_var C lk3 mm3 (wd_fresh (wf_lst (wa_nil ⟨Nat.zero_le _, kT xs, [], isL_T xs, isL_nil, _, rfl, ?_⟩)))))))
    cases xs with
    | nil => exact ite_f (wd_non (by rw [ej] at h; exact h))
    | cons x xs => exact ite_t (wd_ix xd_lst (wd_var C lk3 mm3 (wd_int ⟨_, _, _, rfl, rfl, at_0, (by rw [ej] at h; exact h)⟩)))
  · refine wg_in C ["sign", "two", "one", "other", "self"] ["sign", "two"] [] rfl rfl rfl fun C' => ?_
    refine wg_tup C' rfl (wgs_cons rfl (wg_name C' lk4 mm0 pt4 rfl) (wgs_cons rfl (wg_name C' lk5 mm1 pt5 rfl) (wgs_nil ?_))) rfl
    intro q
    refine wt_in C ["sign", "two", "one", "other", "self"] ["sign", "two"] [] rfl rfl rfl fun C' => ?_
    refine wt_w (ww_and (wt_cmp (od_eq C') (wd_var C' lk5 mm1 (wd_tup (wa_cons (wd_var C' lk1 mm2 (wa_cons (wd_var C' lk2 mm3 (wa_nil ⟨by have := line_big; show 2 ≤ _; omega, _, _, isK_T [r.2.1, r.2.2], isK_T [a, b], _, rfl, ?_⟩)))))))))
    rw [dec_pair r.2]
    refine ite_dec (fun h1 => ?_) (fun h1 => ⟨by rw [decide_eq_false h1]; rfl, fun z => nomatch z⟩)
    refine ww_and1 (wt_cmp od_ninT (wd_var C' lk4 mm0 (wd_fld (wd_var C' lk0 mm4 ⟨_, _, _, rfl, fx.cT, fx.aT _ mm2, rfl, _, _, rfl, map_iN _, _, rfl, ?_⟩))))
    refine ⟨?_, fun _ q => wd_in C ["sign", "two", "one", "other", "self"] ["sign", "two"] [] rfl rfl rfl fun C' => wd_var C' lk4 mm0 rfl⟩
    rw [decide_eq_true h1, Bool.true_and, mem_iN]
end
end W3
end
section
set_option Elab.async false
set_option linter.all false
set_option maxRecDepth 100000
set_option maxHeartbeats 1000000
/-! WB: walks: the package's readings. -/
namespace W3
open PySem PySem.Spec PyProof.Rows L2 Pl

section
variable {M : Md} {CT CS CB : Addr} {f : Addr} {fd : FuncData}
/-! check_table, check_way -/
def cCheckTable (CT : Addr) : Ct := fun ds R => ∃ p : Plan, ds = [tabD CT p] ∧ R .non
theorem ok_checkTable (fx : Fx M CT CS CB) (Fd : FunD M.K "check_table" "check_table" (defArgs (top 16)) (defBody (top 16)) (defScope (top 16)) [] [] f fd) : FnOk M.P M.w M.K M.mg M.base CX0 1 f fd ["table"] (spC M.P M.w M.K 1 (cCheckTable CT)) := by
  refine fn_ok (N := ["table"]) ["table"] ["table"] ["isinstance", "Table"] Fd (C8.fnScope_by (by decide +kernel)) rfl (by decide +kernel) (by decide +kernel) (by decide +kernel) fun q F0 H0 C ds R hl h => ?_
  obtain ⟨p, rfl, h⟩ := h
  exact wb_one (ws_if (wt_not (wt_val (wd_isiO C mm0 fx.n_isinstance mm1 fx.gT (wd_var C lk0 mm0 ⟨_, _, _, rfl, fx.iT, fx.kTT, _, rfl, ite_f (wb_nil h)⟩)))))
def cCheckWay (CT : Addr) : Ct := fun ds R => ∃ (p : Plan) (j : Bool), ds = [tabD CT p, wayD j] ∧ R .non
def nCheckWay : List Str := ["table", "way"]
theorem ok_checkWay (fx : Fx M CT CS CB) (Tt : M.Fn "check_table" 1 1 (cCheckTable CT)) (Fd : FunD M.K "check_way" "check_way" (defArgs (top 21)) (defBody (top 21)) (defScope (top 21)) [] [] f fd) : FnOk M.P M.w M.K M.mg M.base CX0 2 f fd nCheckWay (spC M.P M.w M.K 2 (cCheckWay CT)) := by
  refine fn_ok (N := nCheckWay) nCheckWay nCheckWay ["check_table", "isinstance", "str", "WAYS"] Fd (C8.fnScope_by (by decide +kernel)) rfl (by decide +kernel) (by decide +kernel) (by decide +kernel) fun q F0 H0 C ds R hl h => ?_
  obtain ⟨p, j, rfl, h⟩ := h
  refine wb_cons (ws_drop (wd_fn Tt (Nat.le_refl _) C mm0 (wa_cons (wd_var C lk0 mm0 (wa_nil ⟨rfl, _, rfl, ?_⟩)))))
  refine wb_one (ws_if (wt_w (ww_or (wt_not (wt_val (wd_isi C mm1 fx.n_isinstance mm2 fx.n_str b_str (wd_var C lk1 mm1 ⟨_, true, rfl, by decide +kernel, _, rfl, ite_f ?_⟩)))))))
  refine ww_or1 (wt_cmp od_ninS (wd_var C lk1 mm1 (wd_glob C mm3 fx.gWAYS ⟨_, ["apart", "joined"], rfl, rfl, ?_, _, rfl, ite_f (wb_nil h)⟩)))
  cases j
  · exact mm0
  · exact mm1
/-! held_back -/
def nHeld : List Str := ["table", "way", "standing", "base", "marks", "kept", "mark", "late", "is_free"]
def cHeld (CT : Addr) : Ct := fun ds R => ∃ (p : Plan) (j : Bool) (s : Stg), ds = [tabD CT p, wayD j, eS s] ∧ p.Ok ∧ SOk p s ∧ R (eT (p.held j s))
theorem way_joined (j : Bool) : decide ((if j = true then ("joined" : Str) else "apart") = "joined") = j := by cases j <;> decide +kernel
theorem eO_isN (o : Option Nat) : (eO o).isN = o.isNone := by cases o <;> rfl
theorem at_last {xs : List Nat} {k : Nat} (h : xs.getLast? = some k) : atI (xs.map eN) (-1) = some (eN k) := by
  have hne : xs ≠ [] := fun e => by rw [e] at h; cases h
  have hl : 0 < xs.length := List.length_pos_iff.mpr hne
  rw [List.getLast?_eq_getElem?] at h
  unfold atI ixN
  rw [List.length_map, if_neg (by decide), if_pos (by omega)]
  show (xs.map eN)[((-1 : Int) + (xs.length : Int)).toNat]? = _
  rw [show ((-1 : Int) + (xs.length : Int)).toNat = xs.length - 1 by omega, List.getElem?_map, h]; rfl
theorem ok_held (fx : Fx M CT CS CB) (Tj : MtT M.P M.w M.K M.mg M.base CT "joined" 3 3 (cJoined CT)) (Fd : FunD M.K "held_back" "held_back" (defArgs (top 25)) (defBody (top 25)) (defScope (top 25)) [] [] f fd) : FnOk M.P M.w M.K M.mg M.base CX0 4 f fd ["table", "way", "standing"] (spC M.P M.w M.K 3 (cHeld CT)) := by
  refine fn_ok (N := nHeld) nHeld nHeld [] Fd (C8.fnScope_by (by decide +kernel)) rfl (by decide +kernel) (by decide +kernel) (by decide +kernel) fun q F0 H0 C ds R hl h => ?_
  obtain ⟨p, j, s, rfl, ok, hs, h⟩ := h
  refine wb_cons (ws_asg (wd_var C lk2 mm2 (wg_tup C rfl (wgs_cons rfl (wg_name C lk3 mm3 pt3 rfl) (wgs_cons rfl (wg_name C lk4 mm4 pt4 rfl) (wgs_nil ?_))) rfl)))
  refine wb_cons (ws_if (wt_cmp od_isN (wd_var C lk3 mm3 (wd_non ⟨rfl, _, rfl, ?_⟩))))
  rw [eO_isN]
  obtain ⟨o, marks⟩ := s
  cases o with
  | none => exact ite_t (wb_one (ws_ret (wd_var C lk4 mm4 h)))
  | some b =>
    refine ite_f (wb_nil ?_)
    have hmk : ∀ x ∈ marks, x < p.n := hs.m
    have hb : b < p.n := hs.b b rfl
    refine wb_cons (ws_set C lk5 mm5 (wv_f (wf_lst (wa_nil ⟨Nat.zero_le _, _, pt5, ?_⟩))))
    refine wb_cons (ws_for (ns := [6]) C (wi_tup (wd_var C lk4 mm4 ⟨_, rfl, fun i ρ' => ∃ s6 s7 s8 : Sl, ρ' = [.d (tabD CT p), .d (wayD j), .d (eS (some b, marks)), .d (eN ((marks.take i).foldl (p.hstep j) (b, [])).1), .d (eT marks), .own (((marks.take i).foldl (p.hstep j) (b, [])).2.map eN), s6, s7, s8], ⟨_, _, _, rfl⟩, ?_, ?_⟩)))
    · rintro ρ' ⟨s6, s7, s8, rfl⟩
      rw [List.length_map, List.take_length]
      have hle := hfold_len p j marks (b, [])
      have hm2 := hs.l
      have hh : R (eT (((marks.foldl (p.hstep j) (b, [])).1) :: (marks.foldl (p.hstep j) (b, [])).2)) := h
      refine wb_frzL pt5 pt5 ?_
      exact wb_one (ws_ret (wd_tup (wa_cons (wd_var C lk3 mm3 (wa_starL (wd_var C lk5 mm5 ⟨_, rfl, wa_nil ⟨le_line (by simp only [List.length_cons, List.length_append, List.length_map, List.length_nil] at hle hm2 ⊢; omega), by rw [List.append_nil]; exact hh⟩⟩))))))
    · rintro i d ρ1 ed ⟨s6, s7, s8, rfl⟩
      have hi : i < marks.length := by have := (List.getElem?_eq_some_iff.mp ed).1; rwa [List.length_map] at this
      rw [List.getElem?_map, List.getElem?_eq_getElem hi] at ed
      cases ed
      have hm : marks[i] < p.n := hmk _ (List.getElem_mem hi)
      have et : (marks.take (i + 1)).foldl (p.hstep j) (b, []) = p.hstep j ((marks.take i).foldl (p.hstep j) (b, [])) marks[i] := by
        rw [List.take_succ, List.getElem?_eq_getElem hi, Option.toList_some, List.foldl_append]; rfl
      have hk : HOk p ((marks.take i).foldl (p.hstep j) (b, [])) := hfold_ok ok _ ⟨hb, (fun _ z => nomatch z)⟩ fun x hx => hmk x (List.mem_of_mem_take hx)
      have hkl := hfold_len p j (marks.take i) (b, [])
      rw [List.length_take] at hkl
      dsimp only
      rw [et]
      generalize (marks.take i).foldl (p.hstep j) (b, []) = q at hk hkl ⊢
      refine wg_name C lk6 mm6 pt6 ?_
      -- late
      refine wb_cons (ws_set C lk7 mm7 (wv_d (wd_eq (eO (if j = true then p.joined q.1 marks[i] else none)) ?_ ⟨_, pt7, ?_⟩)))
      · refine wd_ifexp (wt_cmp od_eqS (wd_var C lk1 mm1 (wd_str ⟨_, _, rfl, rfl, _, rfl, ?_⟩)))
        rw [way_joined]
        refine ite_b (fun e => ?_) (fun e => ?_)
        · rw [if_pos e]
          exact wd_meth Tj (Nat.le_refl _) C (wd_var C lk0 mm0 ⟨_, rfl, rfl, wa_cons (wd_var C lk3 mm3 (wa_cons (wd_var C lk6 mm6 (wa_nil ⟨rfl, _, _, _, rfl, ok, hk.b, hm, rfl⟩))))⟩)
        · rw [if_neg (by rw [e]; exact Bool.false_ne_true)]
          exact wd_non rfl
      -- is_free
      refine wb_cons (ws_set C lk8 mm8 (wv_d (wd_eq (.bl (p.isFree q.2 marks[i])) (wd_thawL pt5 pt5 ?_) ⟨_, pt8, ?_⟩)))
      · refine wd_or (wd_cmp (od_eqL C) (wd_var C lk5 mm5 (wd_fresh (wf_lst (wa_nil ⟨Nat.zero_le _, kT q.2, [], isL_T _, isL_nil, _, rfl, ?_⟩)))))
        unfold Plan.isFree
        cases eq2 : q.2 with
        | nil => exact ite_t ⟨.bl, rfl⟩
        | cons y ys =>
          obtain ⟨k', hk'⟩ : ∃ k', (y :: ys).getLast? = some k' := ⟨_, List.getLast?_eq_some_getLast (by simp)⟩
          have hkn : k' < p.n := hk.m k' (by rw [eq2]; exact List.mem_of_getLast? hk')
          have ha : atI ((y :: ys).map eN) (-1) = some (eN k') := at_last hk'
          rw [hk']
          refine ite_f ?_
          refine wd_one (wd_cmp od_lt (wd_ix xd_tup (wd_fld (wd_var C lk0 mm0 ⟨_, _, _, rfl, fx.cT, fx.aT _ mm0, rfl, wd_ix xd_lst (wd_var C lk5 mm5 (wd_neg (wd_int ⟨_, rfl, _, _, _, rfl, rfl, ha, _, _, _, rfl, rfl, at_c hkn, ?_⟩)))⟩))))
          refine wd_ix xd_tup (wd_fld (wd_var C lk0 mm0 ⟨_, _, _, rfl, fx.cT, fx.aT _ mm0, rfl, wd_var C lk6 mm6 ⟨_, _, _, rfl, rfl, at_c hm, _, _, rfl, rfl, .bl, ?_⟩⟩))
          congr 1
          rw [Bool.eq_iff_iff, decide_eq_true_eq, decide_eq_true_eq]
          omega
      -- the step
      refine wb_one (ws_if (wt_eq ((if j = true then p.joined q.1 marks[i] else none).isSome && p.isFree q.2 marks[i]) ?_ ?_))
      · refine wt_w (ww_and (wt_cmp od_notN (wd_var C lk7 mm7 (wd_non ⟨rfl, _, rfl, ?_⟩))))
        rw [eO_isN]
        cases (if j = true then p.joined q.1 marks[i] else none) with
        | none => exact ite_f rfl
        | some l => exact ite_t (ww_and1 (wt_val (wd_var C lk8 mm8 ⟨_, rfl, rfl⟩)))
      · unfold Plan.hstep
        cases (if j = true then p.joined q.1 marks[i] else none) with
        | none =>
          refine ite_f ?_
          exact wb_one (ws_append C lk5 mm5 (wd_var C lk6 mm6 ⟨by have := line_big; rw [List.length_map]; simp only [List.length_nil] at hkl; have := hs.l; simp only at this; omega, _, pt5, _, _, _, by rw [List.map_append]; rfl⟩))
        | some l =>
          cases p.isFree q.2 marks[i] with
          | true => exact ite_t (wb_one (ws_set C lk3 mm3 (wv_d (wd_var C lk7 mm7 ⟨_, pt3, _, _, _, rfl⟩))))
          | false =>
            refine ite_f ?_
            exact wb_one (ws_append C lk5 mm5 (wd_var C lk6 mm6 ⟨by have := line_big; rw [List.length_map]; simp only [List.length_nil] at hkl; have := hs.l; simp only at this; omega, _, pt5, _, _, _, by show _ = [_, _, _, _, _, Sl.own ((q.2 ++ [marks[i]]).map eN), _, _, _]; rw [List.map_append]; rfl⟩))
end
end W3
end
section
set_option Elab.async false
set_option linter.all false
set_option maxRecDepth 100000
set_option maxHeartbeats 1000000
/-! WC: walks: reading. -/
namespace W3
open PySem PySem.Spec PyProof.Rows L2 Pl

theorem cutD_take {xs : List Nat} {k : Nat} : cutD (xs.map eN) none (some (k : Int)) = (xs.take k).map eN := by
  unfold cutD
  rw [HT.sIx_none, List.length_map, HT.sIx_nat, List.drop_zero, Nat.sub_zero, ← List.map_take]
  congr 1
  by_cases h : k ≤ xs.length
  · rw [Nat.min_eq_left h]
  · rw [Nat.min_eq_right (by omega), List.take_length, List.take_of_length_le (by omega)]
theorem cutD_drop {xs : List Nat} {k : Nat} : cutD (xs.map eN) (some (k : Int)) none = (xs.drop k).map eN := by
  unfold cutD
  rw [HT.sIx_none, List.length_map, HT.sIx_nat, ← List.map_drop, ← List.map_take]
  congr 1
  by_cases h : k ≤ xs.length
  · rw [Nat.min_eq_left h, List.take_of_length_le (by rw [List.length_drop]; exact Nat.le_refl _)]
  · rw [Nat.min_eq_right (by omega), Nat.sub_self, List.take_zero, List.drop_of_length_le (by omega)]
theorem ln1 {a : D} : [a].length ≤ sizeLine := le_line (by show 1 ≤ 1000000; decide)
theorem ln2 {a b : D} : [a, b].length ≤ sizeLine := le_line (by show 2 ≤ 1000000; decide)
theorem ln2' {α : Type} {a b : α} : [a, b].length ≤ sizeLine := le_line (by show 2 ≤ 1000000; decide)
theorem ln3 {a b c : D} : [a, b, c].length ≤ sizeLine := le_line (by show 3 ≤ 1000000; decide)
theorem eq_2 (xs : List D) : decide (NestedKey.num (xs.length : Int) = NestedKey.num 2) = decide (xs.length = 2) := by
  rw [Bool.eq_iff_iff, decide_eq_true_eq, decide_eq_true_eq, NestedKey.num.injEq]; omega
theorem isK_I (i : Int) : IsK (.int i) (.num i) := ⟨by rw [ofK], by simp only [NestedKey.depth]; omega, rfl⟩
section
variable {M : Md} {CT CS CB : Addr} {f : Addr} {fd : FuncData}
/-! with_mark -/
def nWithMark : List Str := ["table", "marks", "mark", "at", "one"]
def cWithMark (CT : Addr) : Ct := fun ds R => ∃ (p : Plan) (ms : List Nat) (m : Nat), ds = [tabD CT p, eT ms, eN m] ∧ (∀ x ∈ ms, x < p.n) ∧ ms.length ≤ 2 ∧ m < p.n ∧ R (eT (p.withMark ms m))
theorem ok_withMark (fx : Fx M CT CS CB) (Fd : FunD M.K "with_mark" "with_mark" (defArgs (top 26)) (defBody (top 26)) (defScope (top 26)) [] [] f fd) : FnOk M.P M.w M.K M.mg M.base CX0 1 f fd ["table", "marks", "mark"] (spC M.P M.w M.K 3 (cWithMark CT)) := by
  refine fn_ok (N := nWithMark) ["table", "marks", "mark", "at"] ["table", "marks", "mark", "at"] ["len"] Fd (C8.fnScope_by (by decide +kernel)) rfl (by decide +kernel) (by decide +kernel) (by decide +kernel) fun q F0 H0 C ds R hl h => ?_
  obtain ⟨p, ms, m, rfl, hms, hl2, hm, h⟩ := h
  refine wb_cons (ws_set C lk3 mm3 (wv_d (wd_callB cd_lenL C mm0 fx.n_len b_len (wa_cons (wd_fresh (wf_eq ((ms.filter fun x => decide (p.c x ≤ p.c m)).map eN) ?_ (wa_nil ⟨_, rfl, _, pt3, ?_⟩)))))))
  · refine wf_c (own := [("one", 4)]) (ns := [4]) C (blkOk_by (show blkC nWithMark (defScope (top 26)) _ _ = true by decide +kernel)) (by decide) (wi_tup (wd_var C lk1 mm1 ⟨_, rfl, ?_⟩))
    refine lc_filt ms eN (fun x => decide (p.c x ≤ p.c m)) eN (le_line (by omega)) rfl fun x hx q => ?_
    refine wg_in C ["one", "table", "mark"] ["one"] [] rfl rfl rfl fun C' => wg_name C' lk4 mm0 pt4 ?_
    intro q
    refine wt_in C ["one", "table", "mark"] ["one"] [] rfl rfl rfl fun C' => ?_
    refine wt_cmp od_le (wd_ix xd_tup (wd_fld (wd_var C' lk0 mm1 ⟨_, _, _, rfl, fx.cT, fx.aT _ mm0, rfl, wd_var C' lk4 mm0 ⟨_, _, _, rfl, rfl, at_c (hms x hx), wd_ix xd_tup (wd_fld (wd_var C' lk0 mm1 ⟨_, _, _, rfl, fx.cT, fx.aT _ mm0, rfl, wd_var C' lk2 mm2 ⟨_, _, _, rfl, rfl, at_c hm, _, _, rfl, rfl, _, rfl, ?_⟩⟩))⟩⟩)))
    refine ⟨by rw [Bool.eq_iff_iff, decide_eq_true_eq, decide_eq_true_eq]; omega, fun _ q => wd_in C ["one", "table", "mark"] ["one"] [] rfl rfl rfl fun C' => wd_var C' lk4 mm0 rfl⟩
  · rw [List.length_map]
    have hw : R (eT (ms.take (ms.filter fun x => decide (p.c x ≤ p.c m)).length ++ m :: ms.drop (ms.filter fun x => decide (p.c x ≤ p.c m)).length)) := h
    generalize (ms.filter fun x => decide (p.c x ≤ p.c m)).length = k at hw ⊢
    refine wb_one (ws_ret (wd_tup (wa_star (wd_sliceT (POl := (· = none)) (POh := (· = some (k : Int))) (wd_var C lk1 mm1 ⟨_, rfl, ?_⟩) (wo_none rfl) (wo_some (wd_var C lk3 mm3 ⟨_, rfl, rfl⟩))))))
    rintro _ _ rfl rfl
    refine ⟨_, rfl, wa_cons (wd_var C lk2 mm2 (wa_star (wd_sliceT (POl := (· = some (k : Int))) (POh := (· = none)) (wd_var C lk1 mm1 ⟨_, rfl, ?_⟩) (wo_some (wd_var C lk3 mm3 ⟨_, rfl, rfl⟩)) (wo_none rfl))))⟩
    rintro _ _ rfl rfl
    refine ⟨_, rfl, wa_nil ⟨?_, ?_⟩⟩
    · rw [cutD_take, cutD_drop, List.append_nil]
      refine le_line ?_
      simp only [List.length_append, List.length_cons, List.length_map, List.length_take, List.length_drop]
      omega
    · rw [cutD_take, cutD_drop, List.append_nil]
      have e : eT (ms.take k ++ m :: ms.drop k) = .tup ((ms.take k).map eN ++ eN m :: (ms.drop k).map eN) := by show D.tup _ = _; rw [List.map_append]; rfl
      rw [e] at hw
      exact hw
/-! read_bare -/
def nReadBare : List Str := ["table", "way", "standing", "sign", "base", "marks", "held_now", "late"]
def eR : Option (Stg × List Nat) → D
  | none => .non
  | some r => .tup [eS r.1, eT r.2]
theorem eR_isN (o : Option (Stg × List Nat)) : (eR o).isN = o.isNone := by cases o <;> rfl
def cReadBare (CT : Addr) : Ct := fun ds R => ∃ (p : Plan) (j : Bool) (s : Stg) (x : Nat), ds = [tabD CT p, wayD j, eS s, eN x] ∧ p.Ok ∧ SOk p s ∧ x < p.n ∧ R (eR (p.readBare j s x))
theorem len_k (xs : List Nat) (k : Nat) (i : Int) (e : i = (k : Int)) : decide (NestedKey.num (((xs.map eN).length : Nat) : Int) = NestedKey.num i) = decide (xs.length = k) := by
  subst e
  rw [List.length_map, Bool.eq_iff_iff, decide_eq_true_eq, decide_eq_true_eq, NestedKey.num.injEq]; omega
theorem ok_readBare (fx : Fx M CT CS CB) (Tj : MtT M.P M.w M.K M.mg M.base CT "joined" 3 3 (cJoined CT)) (Tw : M.Fn "with_mark" 1 3 (cWithMark CT)) (Th : M.Fn "held_back" 4 3 (cHeld CT)) (Fd : FunD M.K "read_bare" "read_bare" (defArgs (top 27)) (defBody (top 27)) (defScope (top 27)) [] [] f fd) : FnOk M.P M.w M.K M.mg M.base CX0 5 f fd ["table", "way", "standing", "sign"] (spC M.P M.w M.K 4 (cReadBare CT)) := by
  refine fn_ok (N := nReadBare) nReadBare nReadBare ["len", "MOST_MARKS", "with_mark", "held_back"] Fd (C8.fnScope_by (by decide +kernel)) rfl (by decide +kernel) (by decide +kernel) (by decide +kernel) fun q F0 H0 C ds R hl h => ?_
  obtain ⟨p, j, s, x, rfl, ok, hs, hx, h⟩ := h
  refine wb_cons (ws_asg (wd_var C lk2 mm2 (wg_tup C rfl (wgs_cons rfl (wg_name C lk4 mm4 pt4 rfl) (wgs_cons rfl (wg_name C lk5 mm5 pt5 rfl) (wgs_nil ?_))) rfl)))
  refine wb_cons (ws_if (wt_cmp od_gt (wd_ix xd_tup (wd_fld (wd_var C lk0 mm0 ⟨_, _, _, rfl, fx.cT, fx.aT _ mm0, rfl, wd_var C lk3 mm3 ⟨_, _, _, rfl, rfl, at_c hx, wd_int ⟨_, _, rfl, rfl, _, rfl, ?_⟩⟩⟩)))))
  unfold Plan.readBare at h
  refine ite_dec (fun hc => ?_) (fun hc => wb_nil ?_)
  · rw [if_pos (by omega)] at h
    refine wb_cons (ws_if (wt_cmp (od_eq C) (wd_callB cd_lenT C mm0 fx.n_len b_len (wa_cons (wd_var C lk5 mm5 (wa_nil ⟨_, rfl, wd_glob C mm1 fx.gMOST_MARKS ⟨_, _, isK_I _, isK_I 2, _, rfl, ?_⟩⟩))))))
    rw [len_k s.2 2 2 rfl]
    refine ite_dec (fun hl2 => ?_) (fun hl2 => wb_nil ?_)
    · rw [if_pos hl2] at h
      exact wb_one (ws_ret (wd_non h))
    · rw [if_neg hl2] at h
      exact wb_one (ws_ret (wd_tup (wa_cons (wd_tup (wa_cons (wd_var C lk4 mm4 (wa_cons (wd_fn Tw (by omega) C mm2 (wa_cons (wd_var C lk0 mm0 (wa_cons (wd_var C lk5 mm5 (wa_cons (wd_var C lk3 mm3 (wa_nil ⟨rfl, _, _, _, rfl, hs.m, hs.l, hx, wa_nil ⟨ln2, wa_cons (wd_tup (wa_nil ⟨Nat.zero_le _, wa_nil ⟨ln2, h⟩⟩))⟩⟩)))))))))))))))
  · rw [if_neg (by omega)] at h
    dsimp only at h
    refine wb_cons (ws_set C lk6 mm6 (wv_d (wd_fn Th (by omega) C mm3 (wa_cons (wd_var C lk0 mm0 (wa_cons (wd_var C lk1 mm1 (wa_cons (wd_var C lk2 mm2 (wa_nil ⟨rfl, _, _, _, rfl, ok, hs, _, pt6, ?_⟩))))))))))
    have hh := held_ok (j := j) ok hs
    generalize p.held j s = hd at h hh ⊢
    refine wb_cons (ws_if (wt_eq (j && decide (hd.length = 1) && s.1.isSome) ?_ ?_))
    · refine wt_w (ww_and (wt_cmp od_eqS (wd_var C lk1 mm1 (wd_str ⟨_, _, rfl, rfl, _, rfl, ?_⟩))))
      rw [way_joined]
      refine ite_b (fun ej => ?_) (fun ej => by rw [ej]; rfl)
      rw [ej, Bool.true_and]
      refine ww_and (wt_cmp (od_eq C) (wd_callB cd_lenT C mm0 fx.n_len b_len (wa_cons (wd_var C lk6 mm6 (wa_nil ⟨_, rfl, wd_int ⟨_, _, isK_I _, isK_I 1, _, rfl, ?_⟩⟩)))))
      rw [len_k hd 1 1 rfl]
      refine ite_dec (fun h1 => ?_) (fun h1 => by rw [decide_eq_false h1]; rfl)
      rw [decide_eq_true h1, Bool.true_and]
      refine ww_and1 (wt_cmp od_notN (wd_var C lk4 mm4 (wd_non ⟨rfl, _, rfl, ?_⟩)))
      rw [eO_isN]
      cases s.1 <;> rfl
    · refine ite_b (fun ec => ?_) (fun ec => wb_nil ?_)
      · rw [if_pos ec] at h
        have h1 : hd.length = 1 := by simp only [Bool.and_eq_true, decide_eq_true_eq] at ec; exact ec.1.2
        obtain ⟨a, rfl⟩ : ∃ a, hd = [a] := by
          match hd, h1 with
          | [a], _ => exact ⟨a, rfl⟩
        have ha : a < p.n := hh.2 a List.mem_cons_self
        refine wb_cons (ws_set C lk7 mm7 (wv_d (wd_meth Tj (by omega) C (wd_var C lk0 mm0 ⟨_, rfl, rfl, wa_cons (wd_ix xd_tup (wd_var C lk6 mm6 (wd_int ⟨_, _, _, rfl, rfl, at_0, wa_cons (wd_var C lk3 mm3 (wa_nil ⟨rfl, _, _, _, rfl, ok, ha, hx, _, pt7, ?_⟩))⟩)))⟩))))
        have h' : R (eR (match p.joined a x with | some l => some ((some l, []), []) | none => some ((some x, []), [a]))) := h
        refine wb_one (ws_if (wt_cmp od_notN (wd_var C lk7 mm7 (wd_non ⟨rfl, _, rfl, ?_⟩))))
        rw [eO_isN]
        cases ej : p.joined a x with
        | none =>
          rw [ej] at h'
          refine ite_f (wb_nil ?_)
          exact wb_one (ws_ret (wd_tup (wa_cons (wd_tup (wa_cons (wd_var C lk3 mm3 (wa_cons (wd_tup (wa_nil ⟨Nat.zero_le _, wa_nil ⟨ln2, wa_cons (wd_var C lk6 mm6 (wa_nil ⟨ln2, h'⟩))⟩⟩)))))))))
        | some l =>
          rw [ej] at h'
          refine ite_t ?_
          exact wb_one (ws_ret (wd_tup (wa_cons (wd_tup (wa_cons (wd_var C lk7 mm7 (wa_cons (wd_tup (wa_nil ⟨Nat.zero_le _, wa_nil ⟨ln2, wa_cons (wd_tup (wa_nil ⟨Nat.zero_le _, wa_nil ⟨ln2, h'⟩⟩))⟩⟩)))))))))
      · rw [if_neg (by rw [ec]; exact Bool.false_ne_true)] at h
        exact wb_one (ws_ret (wd_tup (wa_cons (wd_tup (wa_cons (wd_var C lk3 mm3 (wa_cons (wd_tup (wa_nil ⟨Nat.zero_le _, wa_nil ⟨ln2, wa_cons (wd_var C lk6 mm6 (wa_nil ⟨ln2, h⟩))⟩⟩)))))))))
end
end W3
end
section
set_option Elab.async false
set_option linter.all false
set_option maxRecDepth 100000
set_option maxHeartbeats 1000000
/-! WD: walks: texts, seams. -/
namespace W3
open PySem PySem.Spec PyProof.Rows L2 Pl

theorem bare_row {p : Plan} (ok : p.Ok) {x : Nat} (hx : x < p.n) : ∀ y ∈ p.bare x, y < p.n := bare_lt ok (x + 1) x (Nat.lt_succ_self _) hx
theorem drop_at {α : Type} {xs : List α} {i : Nat} (h : i < xs.length) : xs.drop i = xs[i] :: xs.drop (i + 1) := List.drop_eq_getElem_cons h
theorem app_eq {xs ys : List Nat} : D.tup (xs.map eN ++ (ys.map eN ++ [])) = eT (xs ++ ys) := by rw [List.append_nil]; show _ = D.tup _; rw [List.map_append]
theorem runGo_cons (p : Plan) (r o : Nat) (os : List Nat) : p.runGo r (o :: os) = if 2 < (if 0 < p.c o then r + 1 else 0) then none else p.runGo (if 0 < p.c o then r + 1 else 0) os := rfl
theorem neg_and (x n : Nat) : (decide ((0 : Int) ≤ (x : Int)) && decide ((x : Int) ≤ (n : Int) - 1)) = decide (x < n) := by
  rw [Bool.eq_iff_iff, Bool.and_eq_true, decide_eq_true_eq, decide_eq_true_eq, decide_eq_true_eq]; omega
section
variable {M : Md} {CT CS CB : Addr} {f : Addr} {fd : FuncData}
/-! read_sign -/
def nReadSign : List Str := ["table", "way", "standing", "sign", "found", "one", "row"]
def cReadSign (CT : Addr) : Ct := fun ds R => ∃ (p : Plan) (j : Bool) (s : Stg) (x : Nat), ds = [tabD CT p, wayD j, eS s, eN x] ∧ p.Ok ∧ SOk p s ∧ x < p.n ∧ R (eR (p.readSign j s x))
theorem ok_readSign (fx : Fx M CT CS CB) (Tb : MtT M.P M.w M.K M.mg M.base CT "bare" 6 2 (cBare CT 4)) (Tr : M.Fn "read_bare" 5 4 (cReadBare CT)) (Fd : FunD M.K "read_sign" "read_sign" (defArgs (top 28)) (defBody (top 28)) (defScope (top 28)) [] [] f fd) : FnOk M.P M.w M.K M.mg M.base CX0 7 f fd ["table", "way", "standing", "sign"] (spC M.P M.w M.K 4 (cReadSign CT)) := by
  refine fn_ok (N := nReadSign) nReadSign nReadSign ["read_bare"] Fd (C8.fnScope_by (by decide +kernel)) rfl (by decide +kernel) (by decide +kernel) (by decide +kernel) fun q F0 H0 C ds R hl h => ?_
  obtain ⟨p, j, s, x, rfl, ok, hs, hx, h⟩ := h
  have h4 : x < 4 := by have := ok.few; have : x < p.cls.length := hx; omega
  have hb := bare_row ok hx
  have hb8 := bare_few ok hx
  refine wb_cons (ws_set C lk4 mm4 (wv_d (wd_tup (wa_nil ⟨Nat.zero_le _, _, pt4, ?_⟩))))
  refine wb_cons (ws_for (ns := [5]) C (wi_tup (wd_meth Tb (Nat.le_refl _) C (wd_var C lk0 mm0 ⟨_, rfl, rfl, wa_cons (wd_var C lk3 mm3 (wa_nil ⟨rfl, p, x, rfl, ok, hx, h4, _, rfl, fun i ρ' => ∃ (si : Stg) (fi : List Nat) (s5 s6 : Sl), ρ' = [.d (tabD CT p), .d (wayD j), .d (eS si), .d (eN x), .d (eT fi), s5, s6] ∧ SOk p si ∧ fi.length ≤ 3 * i ∧ p.readGo j si fi ((p.bare x).drop i) = p.readSign j s x, ⟨s, [], _, _, rfl, hs, Nat.zero_le _, rfl⟩, ?_, ?_⟩))⟩))))
  · rintro ρ' ⟨si, fi, s5, s6, rfl, h1, h2, h3⟩
    rw [List.length_map, List.drop_length] at h3
    have h3 : some (si, fi) = p.readSign j s x := h3
    rw [← h3] at h
    exact wb_one (ws_ret (wd_tup (wa_cons (wd_var C lk2 mm2 (wa_cons (wd_var C lk4 mm4 (wa_nil ⟨ln2, h⟩)))))))
  · rintro i d ρ1 ed ⟨si, fi, s5, s6, rfl, h1, h2, h3⟩
    have hi : i < (p.bare x).length := by have := (List.getElem?_eq_some_iff.mp ed).1; rwa [List.length_map] at this
    rw [List.getElem?_map, List.getElem?_eq_getElem hi] at ed
    cases ed
    have hm : (p.bare x)[i] < p.n := hb _ (List.getElem_mem hi)
    rw [drop_at hi] at h3
    dsimp only
    generalize (p.bare x)[i] = o at hm h3 ⊢
    refine wg_name C lk5 mm5 pt5 ?_
    refine wb_cons (ws_set C lk6 mm6 (wv_d (wd_fn Tr (by omega) C mm0 (wa_cons (wd_var C lk0 mm0 (wa_cons (wd_var C lk1 mm1 (wa_cons (wd_var C lk2 mm2 (wa_cons (wd_var C lk5 mm5 (wa_nil ⟨rfl, p, j, si, o, rfl, ok, h1, hm, _, pt6, ?_⟩))))))))))))
    refine wb_cons (ws_if (wt_cmp od_isN (wd_var C lk6 mm6 (wd_non ⟨rfl, _, rfl, ?_⟩))))
    rw [eR_isN]
    unfold Plan.readGo at h3
    cases er : p.readBare j si o with
    | none =>
      rw [er] at h3
      have h3 : none = p.readSign j s x := h3
      rw [← h3] at h
      exact ite_t (wb_one (ws_ret (wd_non h)))
    | some r =>
      rw [er] at h3
      have h3 : p.readGo j r.1 (fi ++ r.2) ((p.bare x).drop (i + 1)) = p.readSign j s x := h3
      obtain ⟨g1, g2, g3⟩ := readBare_ok ok h1 hm er
      refine ite_f (wb_nil ?_)
      refine wb_cons (ws_set C lk2 mm2 (wv_d (wd_ix xd_tup (wd_var C lk6 mm6 (wd_int ⟨_, _, _, rfl, rfl, at_0, _, pt2, ?_⟩)))))
      exact wb_one (ws_set C lk4 mm4 (wv_d (wd_tup (wa_star (wd_var C lk4 mm4 ⟨_, rfl, wa_star (wd_ix xd_tup (wd_var C lk6 mm6 (wd_int ⟨_, _, _, rfl, rfl, at_1, _, rfl, wa_nil ⟨le_line (by simp only [List.length_append, List.length_map, List.length_nil]; omega), _, pt4, r.1, fi ++ r.2, _, _, by rw [app_eq], g1, by rw [List.length_append]; omega, h3⟩⟩)))⟩)))))
/-! made_plain -/
def nPlain : List Str := ["table", "way", "text", "standing", "found", "sign", "some"]
def cPlain (CT : Addr) : Ct := fun ds R => ∃ (p : Plan) (j : Bool) (xs r : List Nat), ds = [tabD CT p, wayD j, eT xs] ∧ p.Ok ∧ (∀ x ∈ xs, x < p.n) ∧ xs.length ≤ 30000 ∧ p.madePlain j xs = some r ∧ R (eT r)
theorem ok_plain (fx : Fx M CT CS CB) (Tr : M.Fn "read_sign" 7 4 (cReadSign CT)) (Th : M.Fn "held_back" 4 3 (cHeld CT)) (Fd : FunD M.K "made_plain" "made_plain" (defArgs (top 29)) (defBody (top 29)) (defScope (top 29)) [] [] f fd) : FnOk M.P M.w M.K M.mg M.base CX0 8 f fd ["table", "way", "text"] (spC M.P M.w M.K 3 (cPlain CT)) := by
  refine fn_ok (N := nPlain) nPlain nPlain ["FIRST", "read_sign", "held_back"] Fd (C8.fnScope_by (by decide +kernel)) rfl (by decide +kernel) (by decide +kernel) (by decide +kernel) fun q F0 H0 C ds R hl h => ?_
  obtain ⟨p, j, xs, r, rfl, ok, hx, hxl, hr, h⟩ := h
  have l1 : (defScope (top 29)).names.lookup ("standing" : Str) = some .local := by decide +kernel
  have l2 : (defScope (top 29)).names.lookup ("found" : Str) = some .local := by decide +kernel
  refine wb_cons (ws_par2 C lk3 lk4 (by decide) l1 l2 (wv_d (wd_glob C mm0 fx.gFIRST (wv_d (wd_tup (wa_nil ⟨Nat.zero_le _, _, _, pt3, pt4, ?_⟩))))) rfl)
  refine wb_cons (ws_for (ns := [5]) C (wi_tup (wd_var C lk2 mm2 ⟨_, rfl, fun i ρ' => ∃ (si : Stg) (fi : List Nat) (s5 s6 : Sl), ρ' = [.d (tabD CT p), .d (wayD j), .d (eT xs), .d (eS si), .d (eT fi), s5, s6] ∧ SOk p si ∧ fi.length ≤ 24 * i ∧ p.plainGo j si fi (xs.drop i) = some r, ⟨Plan.first, [], _, _, rfl, first_ok p, Nat.zero_le _, hr⟩, ?_, ?_⟩)))
  · rintro ρ' ⟨si, fi, s5, s6, rfl, h1, h2, h3⟩
    rw [List.length_map] at h2
    rw [List.length_map, List.drop_length] at h3
    have h3 : some (fi ++ p.held j si) = some r := h3
    cases h3
    have hh := (held_ok (j := j) ok h1).1
    exact wb_one (ws_ret (wd_tup (wa_star (wd_var C lk4 mm4 ⟨_, rfl, wa_star (wd_fn Th (by omega) C mm2 (wa_cons (wd_var C lk0 mm0 (wa_cons (wd_var C lk1 mm1 (wa_cons (wd_var C lk3 mm3 (wa_nil ⟨rfl, _, _, _, rfl, ok, h1, _, rfl, wa_nil ⟨le_line (by simp only [List.length_append, List.length_map, List.length_nil]; omega), by rw [List.append_nil, ← List.map_append]; exact h⟩⟩))))))))⟩))))
  · rintro i d ρ1 ed ⟨si, fi, s5, s6, rfl, h1, h2, h3⟩
    have hi : i < xs.length := by have := (List.getElem?_eq_some_iff.mp ed).1; rwa [List.length_map] at this
    rw [List.getElem?_map, List.getElem?_eq_getElem hi] at ed
    cases ed
    have hm : xs[i] < p.n := hx _ (List.getElem_mem hi)
    rw [drop_at hi] at h3
    dsimp only
    generalize xs[i] = o at hm h3 ⊢
    unfold Plan.plainGo at h3
    cases er : p.readSign j si o with
    | none => rw [er] at h3; cases h3
    | some g =>
      rw [er] at h3
      have h3 : p.plainGo j g.1 (fi ++ g.2) (xs.drop (i + 1)) = some r := h3
      obtain ⟨g1, g2, g3⟩ := readSign_ok ok h1 hm er
      refine wg_name C lk5 mm5 pt5 ?_
      refine wb_cons (ws_asg (ns := [3, 6]) (wd_fn Tr (by omega) C mm1 (wa_cons (wd_var C lk0 mm0 (wa_cons (wd_var C lk1 mm1 (wa_cons (wd_var C lk3 mm3 (wa_cons (wd_var C lk5 mm5 (wa_nil ⟨rfl, p, j, si, o, rfl, ok, h1, hm, ?_⟩)))))))))))
      rw [er]
      refine wg_tup C rfl (wgs_cons rfl (wg_name C lk3 mm3 pt3 rfl) (wgs_cons rfl (wg_name C lk6 mm6 pt6 rfl) (wgs_nil ?_))) rfl
      exact wb_one (ws_set C lk4 mm4 (wv_d (wd_tup (wa_star (wd_var C lk4 mm4 ⟨_, rfl, wa_star (wd_var C lk6 mm6 ⟨_, rfl, wa_nil ⟨le_line (by simp only [List.length_append, List.length_map, List.length_nil]; omega), _, pt4, g.1, fi ++ g.2, _, _, by rw [app_eq], g1, by rw [List.length_append]; omega, h3⟩⟩)⟩)))))
/-! wrong_at, is_tame -/
def nWrong : List Str := ["table", "text", "run", "index", "sign", "one"]
def cWrong (CT : Addr) : Ct := fun ds R => ∃ (p : Plan) (xs : List Nat), ds = [tabD CT p, eT xs] ∧ p.Ok ∧ xs.length ≤ 30000 ∧ R (eO (p.wrongAt xs))
theorem ok_wrong (fx : Fx M CT CS CB) (Tn : M.Fn "is_number" 1 3 cNumber) (Tl : MtT M.P M.w M.K M.mg M.base CT "__len__" 1 1 (fun ds R => ∃ p, ds = [tabD CT p] ∧ R (.int p.n))) (Tb : MtT M.P M.w M.K M.mg M.base CT "bare" 6 2 (cBare CT 4)) (Fd : FunD M.K "wrong_at" "wrong_at" (defArgs (top 22)) (defBody (top 22)) (defScope (top 22)) [] [] f fd) : FnOk M.P M.w M.K M.mg M.base CX0 7 f fd ["table", "text"] (spC M.P M.w M.K 2 (cWrong CT)) := by
  refine fn_ok (N := nWrong) nWrong nWrong ["enumerate", "is_number", "len", "MOST_MARKS"] Fd (C8.fnScope_by (by decide +kernel)) rfl (by decide +kernel) (by decide +kernel) (by decide +kernel) fun q F0 H0 C ds R hl h => ?_
  obtain ⟨p, xs, rfl, ok, hxl, h⟩ := h
  have hn4 : p.n ≤ 4 := ok.few
  refine wb_cons (ws_set C lk2 mm2 (wv_d (wd_int ⟨_, pt2, ?_⟩)))
  refine wb_cons (ws_for (ns := [3, 4]) C (wi_enum C mm0 fx.n_enumerate (wd_var C lk1 mm1 ⟨_, rfl, fun i ρ' => ∃ (r : Nat) (s3 s4 s5 : Sl), ρ' = [.d (tabD CT p), .d (eT xs), .d (eN r), s3, s4, s5] ∧ p.wrongGo i r (xs.drop i) = p.wrongAt xs, ⟨0, _, _, _, rfl, rfl⟩, ?_, ?_⟩)))
  · rintro ρ' ⟨r, s3, s4, s5, rfl, h1⟩
    rw [enumD_length, List.length_map, List.drop_length] at h1
    have h1 : none = p.wrongAt xs := h1
    rw [← h1] at h
    exact wb_one (ws_ret (wd_non h))
  · rintro i d ρ1 ed ⟨r, s3, s4, s5, rfl, h1⟩
    have hi : i < xs.length := by have := (List.getElem?_eq_some_iff.mp ed).1; rwa [enumD_length, List.length_map] at this
    rw [enumD_get (d := eN xs[i]) (by rw [List.getElem?_map, List.getElem?_eq_getElem hi]; rfl)] at ed
    cases ed
    rw [drop_at hi] at h1
    dsimp only
    generalize xs[i] = x at h1 ⊢
    unfold Plan.wrongGo at h1
    refine wg_tup C rfl (wgs_cons rfl (wg_name C lk3 mm3 pt3 rfl) (wgs_cons rfl (wg_name C lk4 mm4 pt4 rfl) (wgs_nil ?_))) rfl
    refine wb_cons (ws_if (wt_not (wt_val (wd_fn Tn (by omega) C mm1 (wa_cons (wd_var C lk4 mm4 (wa_cons (wd_int (wa_cons (wd_op od_sub (wd_callB (cd_lenO Tl (by omega) C) C mm2 fx.n_len b_len (wa_cons (wd_var C lk0 mm0 (wa_nil ⟨_, rfl, p, rfl, p.n, rfl, by omega, wd_int ⟨_, _, rfl, rfl, wa_nil ⟨rfl, _, _, _, rfl, _, rfl, ?_⟩⟩⟩))))))))))))))
    rw [neg_and]
    by_cases hx : x < p.n
    · rw [if_pos hx] at h1
      rw [decide_eq_true hx]
      refine ite_f (wb_nil ?_)
      have h4 : x < 4 := by omega
      have hb := bare_row ok hx
      refine wb_one (ws_for (ns := [5]) C (wi_tup (wd_meth Tb (Nat.le_refl _) C (wd_var C lk0 mm0 ⟨_, rfl, rfl, wa_cons (wd_var C lk4 mm4 (wa_nil ⟨rfl, p, x, rfl, ok, hx, h4, _, rfl, fun k ρ' => ∃ (r' : Nat) (s5 : Sl), ρ' = [.d (tabD CT p), .d (eT xs), .d (eN r'), .d (eN i), .d (eN x), s5] ∧ p.runGo r' ((p.bare x).drop k) = p.runGo r (p.bare x), ⟨r, _, rfl, rfl⟩, ?_, ?_⟩))⟩))))
      · rintro ρ' ⟨r', s5', rfl, h2⟩
        rw [List.length_map, List.drop_length] at h2
        have h2 : some r' = p.runGo r (p.bare x) := h2
        rw [← h2] at h1
        exact ⟨r', _, _, _, rfl, h1⟩
      · rintro k d ρ1 ed ⟨r', s5', rfl, h2⟩
        have hk : k < (p.bare x).length := by have := (List.getElem?_eq_some_iff.mp ed).1; rwa [List.length_map] at this
        rw [List.getElem?_map, List.getElem?_eq_getElem hk] at ed
        cases ed
        have hm : (p.bare x)[k] < p.n := hb _ (List.getElem_mem hk)
        rw [drop_at hk] at h2
        dsimp only
        generalize (p.bare x)[k] = o at hm h2 ⊢
        rw [runGo_cons] at h2
        refine wg_name C lk5 mm5 pt5 ?_
        refine wb_cons (ws_set C lk2 mm2 (wv_d (wd_eq (eN (if 0 < p.c o then r' + 1 else 0)) ?_ ⟨_, pt2, ?_⟩)))
        · refine wd_ifexp (wt_cmp od_gt (wd_ix xd_tup (wd_fld (wd_var C lk0 mm0 ⟨_, _, _, rfl, fx.cT, fx.aT _ mm0, rfl, wd_var C lk5 mm5 ⟨_, _, _, rfl, rfl, at_c hm, wd_int ⟨_, _, rfl, rfl, _, rfl, ?_⟩⟩⟩))))
          refine ite_dec (fun hc => ?_) (fun hc => ?_)
          · rw [if_pos (by omega)]
            exact wd_op od_add (wd_var C lk2 mm2 (wd_int ⟨_, _, rfl, rfl, rfl⟩))
          · rw [if_neg (by omega)]
            exact wd_int rfl
        · generalize (if 0 < p.c o then r' + 1 else 0) = r2 at h2 ⊢
          refine wb_one (ws_if (wt_cmp od_gt (wd_var C lk2 mm2 (wd_glob C mm3 fx.gMOST_MARKS ⟨_, _, rfl, rfl, _, rfl, ?_⟩))))
          refine ite_dec (fun hc => ?_) (fun hc => wb_nil ?_)
          · rw [if_pos (by omega)] at h2
            rw [← h2] at h1
            have h1 : some i = p.wrongAt xs := h1
            rw [← h1] at h
            exact wb_one (ws_ret (wd_var C lk3 mm3 h))
          · rw [if_neg (by omega)] at h2
            exact ⟨r2, _, rfl, h2⟩
    · rw [if_neg hx] at h1
      rw [decide_eq_false hx]
      rw [← h1] at h
      exact ite_t (wb_one (ws_ret (wd_var C lk3 mm3 h)))
end
end W3
end
section
set_option Elab.async false
set_option linter.all false
set_option maxRecDepth 100000
set_option maxHeartbeats 1000000
/-! WE: walks: texts checked, seams. -/
namespace W3
open PySem PySem.Spec PyProof.Rows L2 Pl

def eBh : Option (Option Seam) → D
  | none => .tup []
  | some none => .non
  | some (some m) => eM m
structure MOk (p : Plan) (m : Seam) : Prop where
  a : SOk p m.1
  b : SOk p m.2.1
  l : m.2.2.length ≤ 10000
theorem dec_TT (x y : List Nat) : decide (NestedKey.tup (kT x) = NestedKey.tup (kT y)) = decide (x = y) := dec_T x y
theorem behind_ok {p : Plan} (ok : p.Ok) {j : Bool} {m r : Seam} {x : Nat} (h : MOk p m) (hx : x < p.n) (e : p.behind j m x = some (some r)) : SOk p r.1 ∧ SOk p r.2.1 ∧ p.isEven j r = true ∧ r.2.2.length ≤ 3 := by
  unfold Plan.behind at e
  split at e
  · cases e
  · rename_i f ef
    split at e
    · cases e
    · rename_i g eg
      dsimp only at e
      split at e
      · split at e
        · rename_i hev
          cases e
          have h1 := readSign_ok ok h.a hx ef
          have h2 := readSign_ok ok h.b hx eg
          refine ⟨h1.1, h2.1, hev, ?_⟩
          have h3 := (held_ok (j := j) ok h1.1).1
          have h4 : p.held j f.1 = (m.2.2 ++ g.2).drop f.2.length ++ p.held j g.1 := by simpa [Plan.isEven] using hev
          rw [h4, List.length_append] at h3
          show ((m.2.2 ++ g.2).drop f.2.length).length ≤ 3
          omega
        · cases e
      · cases e
section
variable {M : Md} {CT CS CB : Addr} {f : Addr} {fd : FuncData}
def cTame (CT : Addr) : Ct := fun ds R => ∃ (p : Plan) (xs : List Nat), ds = [tabD CT p, eT xs] ∧ p.Ok ∧ xs.length ≤ 30000 ∧ R (.bl (p.wrongAt xs).isNone)
theorem ok_tame (fx : Fx M CT CS CB) (Tw : M.Fn "wrong_at" 7 2 (cWrong CT)) (Fd : FunD M.K "is_tame" "is_tame" (defArgs (top 23)) (defBody (top 23)) (defScope (top 23)) [] [] f fd) : FnOk M.P M.w M.K M.mg M.base CX0 8 f fd ["table", "text"] (spC M.P M.w M.K 2 (cTame CT)) := by
  refine fn_ok (N := ["table", "text"]) ["table", "text"] ["table", "text"] ["wrong_at"] Fd (C8.fnScope_by (by decide +kernel)) rfl (by decide +kernel) (by decide +kernel) (by decide +kernel) fun q F0 H0 C ds R hl h => ?_
  obtain ⟨p, xs, rfl, ok, hxl, h⟩ := h
  exact wb_one (ws_ret (wd_cmp od_isN (wd_fn Tw (by omega) C mm0 (wa_cons (wd_var C lk0 mm0 (wa_cons (wd_var C lk1 mm1 (wa_nil ⟨rfl, _, _, rfl, ok, hxl, wd_non ⟨rfl, by rw [eO_isN]; exact h⟩⟩))))))))
def nCheckText : List Str := ["table", "way", "text", "index"]
def cCheckText (CT : Addr) : Ct := fun ds R => ∃ (p : Plan) (j : Bool) (xs : List Nat), ds = [tabD CT p, wayD j, eT xs] ∧ p.Ok ∧ xs.length ≤ 30000 ∧ p.wrongAt xs = none ∧ R .non
theorem ok_checkText (fx : Fx M CT CS CB) (Tc : M.Fn "check_way" 2 2 (cCheckWay CT)) (Tw : M.Fn "wrong_at" 7 2 (cWrong CT)) (Fd : FunD M.K "check_text" "check_text" (defArgs (top 24)) (defBody (top 24)) (defScope (top 24)) [] [] f fd) : FnOk M.P M.w M.K M.mg M.base CX0 8 f fd ["table", "way", "text"] (spC M.P M.w M.K 3 (cCheckText CT)) := by
  refine fn_ok (N := nCheckText) nCheckText nCheckText ["check_way", "isinstance", "tuple", "wrong_at"] Fd (C8.fnScope_by (by decide +kernel)) rfl (by decide +kernel) (by decide +kernel) (by decide +kernel) fun q F0 H0 C ds R hl h => ?_
  obtain ⟨p, j, xs, rfl, ok, hxl, hw, h⟩ := h
  refine wb_cons (ws_drop (wd_fn Tc (by omega) C mm0 (wa_cons (wd_var C lk0 mm0 (wa_cons (wd_var C lk1 mm1 (wa_nil ⟨rfl, _, _, rfl, ?_⟩)))))))
  refine wb_cons (ws_if (wt_not (wt_val (wd_isi C mm1 fx.n_isinstance mm2 fx.n_tuple b_tuple (wd_var C lk2 mm2 ⟨_, true, rfl, by decide +kernel, _, rfl, ite_f (wb_nil ?_)⟩)))))
  refine wb_cons (ws_set C lk3 mm3 (wv_d (wd_fn Tw (by omega) C mm3 (wa_cons (wd_var C lk0 mm0 (wa_cons (wd_var C lk2 mm2 (wa_nil ⟨rfl, _, _, rfl, ok, hxl, _, pt3, ?_⟩))))))))
  rw [hw]
  exact wb_one (ws_if (wt_cmp od_notN (wd_var C lk3 mm3 (wd_non ⟨rfl, _, rfl, ite_f (wb_nil h)⟩))))
def nHarm : List Str := ["table", "way", "one", "other", "whole"]
/-- the pieces' plain forms -/
def Harm (p : Plan) (j : Bool) (a b : List Nat) (t : Bool) : Prop := ∃ ra rb rw, p.madePlain j a = some ra ∧ p.madePlain j b = some rb ∧ p.madePlain j (a ++ b) = some rw ∧ t = decide (ra ++ rb = rw)
def cHarm (CT : Addr) : Ct := fun ds R => ∃ (p : Plan) (j : Bool) (a b : List Nat) (t : Bool), ds = [tabD CT p, wayD j, eT a, eT b] ∧ p.Ok ∧ (∀ x ∈ a ++ b, x < p.n) ∧ a.length ≤ 15000 ∧ b.length ≤ 15000 ∧ Harm p j a b t ∧ R (.bl t)
theorem plainGo_len {p : Plan} (ok : p.Ok) {j : Bool} : ∀ {xs : List Nat} {s : Stg} {found r : List Nat}, SOk p s → (∀ x ∈ xs, x < p.n) → p.plainGo j s found xs = some r → r.length ≤ found.length + 24 * xs.length + 3
  | [], s, found, r, h, _, e => by
    cases e
    have := (held_ok (j := j) ok h).1
    rw [List.length_append]; simp only [List.length_nil]; omega
  | x :: xs, s, found, r, h, hx, e => by
    unfold Plan.plainGo at e
    split at e
    · cases e
    · rename_i g eg
      obtain ⟨g1, g2, g3⟩ := readSign_ok ok h (hx x List.mem_cons_self) eg
      have := plainGo_len ok g1 (fun y hy => hx y (List.mem_cons_of_mem _ hy)) e
      rw [List.length_append] at this
      rw [List.length_cons]; omega
theorem madePlain_len {p : Plan} (ok : p.Ok) {j : Bool} {xs r : List Nat} (hx : ∀ x ∈ xs, x < p.n) (e : p.madePlain j xs = some r) : r.length ≤ 24 * xs.length + 3 := by
  have := plainGo_len ok (first_ok p) hx e
  rw [List.length_nil] at this; omega
theorem ok_harm (fx : Fx M CT CS CB) (Tp : M.Fn "made_plain" 8 3 (cPlain CT)) (Fd : FunD M.K "are_harmless" "are_harmless" (defArgs (top 32)) (defBody (top 32)) (defScope (top 32)) [] [] f fd) : FnOk M.P M.w M.K M.mg M.base CX0 9 f fd ["table", "way", "one", "other"] (spC M.P M.w M.K 4 (cHarm CT)) := by
  refine fn_ok (N := nHarm) nHarm nHarm ["made_plain"] Fd (C8.fnScope_by (by decide +kernel)) rfl (by decide +kernel) (by decide +kernel) (by decide +kernel) fun q F0 H0 C ds R hl h => ?_
  obtain ⟨p, j, a, b, t, rfl, ok, hx, ha, hb, ⟨ra, rb, rw_, e1, e2, e3, rfl⟩, h⟩ := h
  have hxa : ∀ x ∈ a, x < p.n := fun x hm => hx x (List.mem_append_left _ hm)
  have hxb : ∀ x ∈ b, x < p.n := fun x hm => hx x (List.mem_append_right _ hm)
  have l1 := madePlain_len ok hxa e1
  have l2 := madePlain_len ok hxb e2
  refine wb_cons (ws_set C lk4 mm4 (wv_d (wd_fn Tp (by omega) C mm0 (wa_cons (wd_var C lk0 mm0 (wa_cons (wd_var C lk1 mm1 (wa_cons (wd_tup (wa_star (wd_var C lk2 mm2 ⟨_, rfl, wa_star (wd_var C lk3 mm3 ⟨_, rfl, wa_nil ⟨?_, wa_nil ⟨rfl, p, j, a ++ b, rw_, by rw [app_eq], ok, hx, by rw [List.length_append]; omega, e3, _, pt4, ?_⟩⟩⟩)⟩)))))))))))
  · exact le_line (by simp only [List.length_append, List.length_map, List.length_nil]; omega)
  · refine wb_one (ws_ret (wd_cmp (od_eq C) (wd_tup (wa_star (wd_fn Tp (by omega) C mm0 (wa_cons (wd_var C lk0 mm0 (wa_cons (wd_var C lk1 mm1 (wa_cons (wd_var C lk2 mm2 (wa_nil ⟨rfl, p, j, a, ra, rfl, ok, hxa, by omega, e1, _, rfl, wa_star (wd_fn Tp (by omega) C mm0 (wa_cons (wd_var C lk0 mm0 (wa_cons (wd_var C lk1 mm1 (wa_cons (wd_var C lk3 mm3 (wa_nil ⟨rfl, p, j, b, rb, rfl, ok, hxb, by omega, e2, _, rfl, wa_nil ⟨?_, wd_var C lk4 mm4 ⟨_, _, by rw [app_eq]; exact isK_T (ra ++ rb), isK_T rw_, by rw [dec_T]; exact h⟩⟩⟩))))))))⟩))))))))))))
    exact le_line (by simp only [List.length_append, List.length_map, List.length_nil]; omega)
def nStd : List Str := ["table", "way", "standing"]
def cCut (CT : Addr) : Ct := fun ds R => ∃ (p : Plan) (j : Bool) (s : Stg), ds = [tabD CT p, wayD j, eS s] ∧ p.Ok ∧ SOk p s ∧ R (eM (p.cutAt j s))
theorem ok_cut (fx : Fx M CT CS CB) (Th : M.Fn "held_back" 4 3 (cHeld CT)) (Fd : FunD M.K "cut_at" "cut_at" (defArgs (top 33)) (defBody (top 33)) (defScope (top 33)) [] [] f fd) : FnOk M.P M.w M.K M.mg M.base CX0 5 f fd nStd (spC M.P M.w M.K 3 (cCut CT)) := by
  refine fn_ok (N := nStd) nStd nStd ["FIRST", "held_back"] Fd (C8.fnScope_by (by decide +kernel)) rfl (by decide +kernel) (by decide +kernel) (by decide +kernel) fun q F0 H0 C ds R hl h => ?_
  obtain ⟨p, j, s, rfl, ok, hs, h⟩ := h
  exact wb_one (ws_ret (wd_tup (wa_cons (wd_var C lk2 mm2 (wa_cons (wd_glob C mm0 fx.gFIRST (wa_cons (wd_fn Th (by omega) C mm1 (wa_cons (wd_var C lk0 mm0 (wa_cons (wd_var C lk1 mm1 (wa_cons (wd_var C lk2 mm2 (wa_nil ⟨rfl, p, j, s, rfl, ok, hs, wa_nil ⟨ln3, h⟩⟩)))))))))))))))
def nEven : List Str := ["table", "way", "seam", "whole", "piece", "rest"]
def cEven (CT : Addr) : Ct := fun ds R => ∃ (p : Plan) (j : Bool) (m : Seam), ds = [tabD CT p, wayD j, eM m] ∧ p.Ok ∧ SOk p m.1 ∧ SOk p m.2.1 ∧ m.2.2.length ≤ 11000 ∧ R (.bl (p.isEven j m))
theorem ok_even (fx : Fx M CT CS CB) (Th : M.Fn "held_back" 4 3 (cHeld CT)) (Fd : FunD M.K "is_even" "is_even" (defArgs (top 34)) (defBody (top 34)) (defScope (top 34)) [] [] f fd) : FnOk M.P M.w M.K M.mg M.base CX0 5 f fd ["table", "way", "seam"] (spC M.P M.w M.K 3 (cEven CT)) := by
  refine fn_ok (N := nEven) nEven nEven ["held_back"] Fd (C8.fnScope_by (by decide +kernel)) rfl (by decide +kernel) (by decide +kernel) (by decide +kernel) fun q F0 H0 C ds R hl h => ?_
  obtain ⟨p, j, m, rfl, ok, h1, h2, h3, h⟩ := h
  have hh := (held_ok (j := j) ok h2).1
  refine wb_cons (ws_asg (ns := [3, 4, 5]) (wd_var C lk2 mm2 (wg_tup C rfl (wgs_cons rfl (wg_name C lk3 mm3 pt3 rfl) (wgs_cons rfl (wg_name C lk4 mm4 pt4 rfl) (wgs_cons rfl (wg_name C lk5 mm5 pt5 rfl) (wgs_nil ?_)))) rfl)))
  refine wb_one (ws_ret (wd_cmp (od_eq C) (wd_fn Th (by omega) C mm0 (wa_cons (wd_var C lk0 mm0 (wa_cons (wd_var C lk1 mm1 (wa_cons (wd_var C lk3 mm3 (wa_nil ⟨rfl, p, j, m.1, rfl, ok, h1, wd_tup (wa_star (wd_var C lk5 mm5 ⟨_, rfl, wa_star (wd_fn Th (by omega) C mm0 (wa_cons (wd_var C lk0 mm0 (wa_cons (wd_var C lk1 mm1 (wa_cons (wd_var C lk4 mm4 (wa_nil ⟨rfl, p, j, m.2.1, rfl, ok, h2, _, rfl, wa_nil ⟨?_, _, _, isK_T _, by rw [app_eq]; exact isK_T (m.2.2 ++ p.held j m.2.1), by rw [dec_T]; exact h⟩⟩))))))))⟩))⟩))))))))))
  exact le_line (by simp only [List.length_append, List.length_map, List.length_nil]; omega)
def nBehind : List Str := ["table", "way", "seam", "sign", "whole", "piece", "rest", "first", "second", "late", "many", "found"]
def cBehind (CT : Addr) : Ct := fun ds R => ∃ (p : Plan) (j : Bool) (m : Seam) (x : Nat), ds = [tabD CT p, wayD j, eM m, eN x] ∧ p.Ok ∧ MOk p m ∧ x < p.n ∧ R (eBh (p.behind j m x))
theorem ok_behind (fx : Fx M CT CS CB) (Tr : M.Fn "read_sign" 7 4 (cReadSign CT)) (Te : M.Fn "is_even" 5 3 (cEven CT)) (Fd : FunD M.K "seam_behind" "seam_behind" (defArgs (top 35)) (defBody (top 35)) (defScope (top 35)) [] [] f fd) : FnOk M.P M.w M.K M.mg M.base CX0 8 f fd ["table", "way", "seam", "sign"] (spC M.P M.w M.K 4 (cBehind CT)) := by
  refine fn_ok (N := nBehind) nBehind nBehind ["read_sign", "len", "is_even"] Fd (C8.fnScope_by (by decide +kernel)) rfl (by decide +kernel) (by decide +kernel) (by decide +kernel) fun q F0 H0 C ds R hl h => ?_
  obtain ⟨p, j, m, x, rfl, ok, hm, hx, h⟩ := h
  refine wb_cons (ws_asg (ns := [4, 5, 6]) (wd_var C lk2 mm2 (wg_tup C rfl (wgs_cons rfl (wg_name C lk4 mm4 pt4 rfl) (wgs_cons rfl (wg_name C lk5 mm5 pt5 rfl) (wgs_cons rfl (wg_name C lk6 mm6 pt6 rfl) (wgs_nil ?_)))) rfl)))
  refine wb_cons (ws_set C lk7 mm7 (wv_d (wd_fn Tr (by omega) C mm0 (wa_cons (wd_var C lk0 mm0 (wa_cons (wd_var C lk1 mm1 (wa_cons (wd_var C lk4 mm4 (wa_cons (wd_var C lk3 mm3 (wa_nil ⟨rfl, p, j, m.1, x, rfl, ok, hm.a, hx, _, pt7, ?_⟩))))))))))))
  unfold Plan.behind at h
  refine wb_cons (ws_if (wt_cmp od_isN (wd_var C lk7 mm7 (wd_non ⟨rfl, _, rfl, ?_⟩))))
  rw [eR_isN]
  cases ef : p.readSign j m.1 x with
  | none => rw [ef] at h; exact ite_t (wb_one (ws_ret (wd_tup (wa_nil ⟨Nat.zero_le _, h⟩))))
  | some ff =>
    rw [ef] at h
    dsimp only at h
    refine ite_f (wb_nil ?_)
    refine wb_cons (ws_set C lk8 mm8 (wv_d (wd_fn Tr (by omega) C mm0 (wa_cons (wd_var C lk0 mm0 (wa_cons (wd_var C lk1 mm1 (wa_cons (wd_var C lk5 mm5 (wa_cons (wd_var C lk3 mm3 (wa_nil ⟨rfl, p, j, m.2.1, x, rfl, ok, hm.b, hx, _, pt8, ?_⟩))))))))))))
    refine wb_cons (ws_if (wt_cmp od_isN (wd_var C lk8 mm8 (wd_non ⟨rfl, _, rfl, ?_⟩))))
    rw [eR_isN]
    obtain ⟨f1, f2, f3⟩ := readSign_ok ok hm.a hx ef
    cases eg : p.readSign j m.2.1 x with
    | none => rw [eg] at h; exact ite_t (wb_one (ws_ret (wd_non h)))
    | some gg =>
      rw [eg] at h
      dsimp only at h
      obtain ⟨g1, g2, g3⟩ := readSign_ok ok hm.b hx eg
      have hml := hm.l
      refine ite_f (wb_nil ?_)
      refine wb_cons (ws_set C lk9 mm9 (wv_d (wd_eq (eT (m.2.2 ++ gg.2)) ?_ ⟨_, pt9, ?_⟩)))
      · exact wd_tup (wa_star (wd_var C lk6 mm6 ⟨_, rfl, wa_star (wd_ix xd_tup (wd_var C lk8 mm8 (wd_int ⟨_, _, _, rfl, rfl, at_1, _, rfl, wa_nil ⟨le_line (by simp only [List.length_append, List.length_map, List.length_nil]; omega), app_eq⟩⟩)))⟩))
      · refine wb_cons (ws_set C lk10 mm10 (wv_d (wd_callB cd_lenT C mm1 fx.n_len b_len (wa_cons (wd_ix xd_tup (wd_var C lk7 mm7 (wd_int ⟨_, _, _, rfl, rfl, at_1, wa_nil ⟨_, rfl, _, pt10, ?_⟩⟩)))))))
        rw [List.length_map]
        refine wb_cons (ws_if (wt_cmp (od_ne C) (wd_sliceT (POl := (· = none)) (POh := (· = some (ff.2.length : Int))) (wd_var C lk9 mm9 ⟨_, rfl, ?_⟩) (wo_none rfl) (wo_some (wd_var C lk10 mm10 ⟨_, rfl, rfl⟩)))))
        rintro _ _ rfl rfl
        rw [cutD_take]
        refine wd_ix xd_tup (wd_var C lk7 mm7 (wd_int ⟨_, _, _, rfl, rfl, at_1, _, _, isK_T _, isK_T _, _, rfl, ?_⟩))
        rw [dec_T]
        refine ite_ndec (fun hc => wb_nil ?_) (fun hc => ?_)
        · rw [if_pos hc] at h
          refine wb_cons (ws_set C lk11 mm11 (wv_d (wd_eq (eM (ff.1, gg.1, (m.2.2 ++ gg.2).drop ff.2.length)) ?_ ⟨_, pt11, ?_⟩)))
          · refine wd_tup (wa_cons (wd_ix xd_tup (wd_var C lk7 mm7 (wd_int ⟨_, _, _, rfl, rfl, at_0, wa_cons (wd_ix xd_tup (wd_var C lk8 mm8 (wd_int ⟨_, _, _, rfl, rfl, at_0, wa_cons (wd_sliceT (POl := (· = some (ff.2.length : Int))) (POh := (· = none)) (wd_var C lk9 mm9 ⟨_, rfl, ?_⟩) (wo_some (wd_var C lk10 mm10 ⟨_, rfl, rfl⟩)) (wo_none rfl))⟩)))⟩))))
            rintro _ _ rfl rfl
            rw [cutD_drop]
            exact wa_nil ⟨ln3, rfl⟩
          · refine wb_one (ws_ret (wd_ifexp (wt_val (wd_fn Te (by omega) C mm2 (wa_cons (wd_var C lk0 mm0 (wa_cons (wd_var C lk1 mm1 (wa_cons (wd_var C lk11 mm11 (wa_nil ⟨rfl, p, j, _, rfl, ok, f1, g1, ?_, _, rfl, ?_⟩)))))))))))
            · show ((m.2.2 ++ gg.2).drop ff.2.length).length ≤ 11000
              rw [List.length_drop, List.length_append]; omega
            · refine ite_b (fun ev => ?_) (fun ev => ?_)
              · rw [if_pos ev] at h; exact wd_var C lk11 mm11 h
              · rw [if_neg (by rw [ev]; exact Bool.false_ne_true)] at h; exact wd_non h
        · rw [if_neg hc] at h
          exact wb_one (ws_ret (wd_non h))
def nCheckStart : List Str := ["table", "way", "start"]
def cCheckStart (CT : Addr) : Ct := fun ds R => ∃ (p : Plan) (j : Bool) (x : Nat), ds = [tabD CT p, wayD j, eN x] ∧ p.Ok ∧ x < p.n ∧ R .non
theorem ok_checkStart (fx : Fx M CT CS CB) (Tc : M.Fn "check_way" 2 2 (cCheckWay CT)) (Tn : M.Fn "is_number" 1 3 cNumber) (Tl : MtT M.P M.w M.K M.mg M.base CT "__len__" 1 1 (fun ds R => ∃ p, ds = [tabD CT p] ∧ R (.int p.n))) (Fd : FunD M.K "check_start" "check_start" (defArgs (top 38)) (defBody (top 38)) (defScope (top 38)) [] [] f fd) : FnOk M.P M.w M.K M.mg M.base CX0 3 f fd nCheckStart (spC M.P M.w M.K 3 (cCheckStart CT)) := by
  refine fn_ok (N := nCheckStart) nCheckStart nCheckStart ["check_way", "is_number", "len"] Fd (C8.fnScope_by (by decide +kernel)) rfl (by decide +kernel) (by decide +kernel) (by decide +kernel) fun q F0 H0 C ds R hl h => ?_
  obtain ⟨p, j, x, rfl, ok, hx, h⟩ := h
  have hn4 : p.n ≤ 4 := ok.few
  refine wb_cons (ws_drop (wd_fn Tc (by omega) C mm0 (wa_cons (wd_var C lk0 mm0 (wa_cons (wd_var C lk1 mm1 (wa_nil ⟨rfl, _, _, rfl, ?_⟩)))))))
  refine wb_one (ws_if (wt_not (wt_val (wd_fn Tn (by omega) C mm1 (wa_cons (wd_var C lk2 mm2 (wa_cons (wd_int (wa_cons (wd_op od_sub (wd_callB (cd_lenO Tl (by omega) C) C mm2 fx.n_len b_len (wa_cons (wd_var C lk0 mm0 (wa_nil ⟨_, rfl, p, rfl, p.n, rfl, by omega, wd_int ⟨_, _, rfl, rfl, wa_nil ⟨rfl, _, _, _, rfl, _, rfl, ?_⟩⟩⟩))))))))))))))
  rw [neg_and, decide_eq_true hx]
  exact ite_f (wb_nil h)
def cIsHarm (CT : Addr) : Ct := fun ds R => ∃ (p : Plan) (j : Bool) (a b : List Nat) (t : Bool), ds = [tabD CT p, wayD j, eT a, eT b] ∧ p.Ok ∧ (∀ x ∈ a ++ b, x < p.n) ∧ a.length ≤ 15000 ∧ b.length ≤ 15000 ∧ p.wrongAt a = none ∧ p.wrongAt (a ++ b) = none ∧ Harm p j a b t ∧ R (.bl t)
def nIsHarm : List Str := ["table", "way", "one", "other", "index"]
theorem ok_isHarm (fx : Fx M CT CS CB) (Tc : M.Fn "check_text" 8 3 (cCheckText CT)) (Tw : M.Fn "wrong_at" 7 2 (cWrong CT)) (Th : M.Fn "are_harmless" 9 4 (cHarm CT)) (Fd : FunD M.K "is_harmless" "is_harmless" (defArgs (top 40)) (defBody (top 40)) (defScope (top 40)) [] [] f fd) : FnOk M.P M.w M.K M.mg M.base CX0 10 f fd ["table", "way", "one", "other"] (spC M.P M.w M.K 4 (cIsHarm CT)) := by
  refine fn_ok (N := nIsHarm) nIsHarm nIsHarm ["check_text", "isinstance", "tuple", "wrong_at", "are_harmless"] Fd (C8.fnScope_by (by decide +kernel)) rfl (by decide +kernel) (by decide +kernel) (by decide +kernel) fun q F0 H0 C ds R hl h => ?_
  obtain ⟨p, j, a, b, t, rfl, ok, hx, ha, hb, w1, w2, hh, h⟩ := h
  refine wb_cons (ws_drop (wd_fn Tc (by omega) C mm0 (wa_cons (wd_var C lk0 mm0 (wa_cons (wd_var C lk1 mm1 (wa_cons (wd_var C lk2 mm2 (wa_nil ⟨rfl, _, _, _, rfl, ok, by omega, w1, ?_⟩)))))))))
  refine wb_cons (ws_if (wt_not (wt_val (wd_isi C mm1 fx.n_isinstance mm2 fx.n_tuple b_tuple (wd_var C lk3 mm3 ⟨_, true, rfl, by decide +kernel, _, rfl, ite_f (wb_nil ?_)⟩)))))
  refine wb_cons (ws_set C lk4 mm4 (wv_d (wd_fn Tw (by omega) C mm3 (wa_cons (wd_var C lk0 mm0 (wa_cons (wd_tup (wa_star (wd_var C lk2 mm2 ⟨_, rfl, wa_star (wd_var C lk3 mm3 ⟨_, rfl, wa_nil ⟨?_, wa_nil ⟨rfl, p, a ++ b, by rw [app_eq], ok, by rw [List.length_append]; omega, _, pt4, ?_⟩⟩⟩)⟩)))))))))
  · exact le_line (by simp only [List.length_append, List.length_map, List.length_nil]; omega)
  · rw [w2]
    refine wb_cons (ws_if (wt_cmp od_notN (wd_var C lk4 mm4 (wd_non ⟨rfl, _, rfl, ite_f (wb_nil ?_)⟩))))
    exact wb_one (ws_ret (wd_fn Th (by omega) C mm4 (wa_cons (wd_var C lk0 mm0 (wa_cons (wd_var C lk1 mm1 (wa_cons (wd_var C lk2 mm2 (wa_cons (wd_var C lk3 mm3 (wa_nil ⟨rfl, p, j, a, b, t, rfl, ok, hx, ha, hb, hh, h⟩)))))))))))
end
end W3
end
section
set_option Elab.async false
set_option linter.all false
set_option maxRecDepth 100000
set_option maxHeartbeats 1000000
/-! WF: walks: making a table. -/
namespace W3
open PySem PySem.Spec PyProof.Rows L2 Pl

theorem all_true {α : Type} (xs : List α) : (xs.map fun _ => true).all id = true := by simp
theorem e2_keys (t : Nat × Nat) : e2 t = .tup (ofKs [kN t.1, kN t.2]) := by rw [ofKs, ofKs, ofKs, ofK_kN, ofK_kN]
theorem firsts_nodup {kss : List (List NestedKey)} (h : kss.Nodup) : firsts kss = kss := by
  have gen : ∀ (l acc : List (List NestedKey)), (acc ++ l).Nodup → l.foldl addN acc = acc ++ l := by
    intro l
    induction l with
    | nil => intro acc _; simp
    | cons x l ih =>
      intro acc h
      rw [List.foldl_cons]
      have hx : x ∉ acc := fun hm => by
        rw [List.nodup_append] at h
        exact h.2.2 x hm x List.mem_cons_self rfl
      have e : addN acc x = acc ++ [x] := if_neg hx
      rw [e, ih (acc ++ [x]) (by rw [List.append_assoc]; exact h), List.append_assoc]; rfl
  have := gen kss [] (by simpa using h)
  simpa [firsts] using this
section
variable {M : Md} {CT CS CB : Addr} {f : Addr} {fd : FuncData}
def cClasses : Ct := fun ds R => ∃ (p : Plan), ds = [eT p.cls] ∧ p.Ok ∧ R (.bl true)
theorem ok_classes (fx : Fx M CT CS CB) (Tn : M.Fn "is_number" 1 3 cNumber) (Fd : FunD M.K "are_classes" "are_classes" (defArgs (top 11)) (defBody (top 11)) (defScope (top 11)) [] [] f fd) : FnOk M.P M.w M.K M.mg M.base CX0 2 f fd ["thing"] (spC M.P M.w M.K 1 cClasses) := by
  refine fn_ok (N := ["thing", "one"]) ["thing"] ["thing"] ["isinstance", "tuple", "len", "MOST_SIGNS", "all"] Fd (C8.fnScope_by (by decide +kernel)) rfl (by decide +kernel) (by decide +kernel) (by decide +kernel) fun q F0 H0 C ds R hl h => ?_
  obtain ⟨p, rfl, ok, h⟩ := h
  have hp := ok.pos
  have h4 := ok.few
  refine wb_cons (ws_if (wt_w (ww_or (wt_not (wt_val (wd_isi C mm0 fx.n_isinstance mm1 fx.n_tuple b_tuple (wd_var C lk0 mm0 ⟨_, true, rfl, by decide +kernel, _, rfl, ite_f ?_⟩)))))))
  refine ww_or1 (wt_not (wt_chain od_le od_le (wd_int (wd_callB cd_lenT C mm2 fx.n_len b_len (wa_cons (wd_var C lk0 mm0 (wa_nil ⟨_, rfl, _, _, rfl, rfl, _, rfl, ?_⟩)))))))
  rw [List.length_map]
  refine ite_dec (fun h1 => ?_) (fun h1 => by omega)
  refine wd_glob C mm3 fx.gMOST_SIGNS ⟨_, _, rfl, rfl, _, rfl, ?_⟩
  rw [decide_eq_true (by omega)]
  refine ite_f (wb_nil ?_)
  refine wb_one (ws_ret (wd_callB (cd_all C) C mm4 fx.n_all b_all (wa_cons (wd_fresh (wf_eq (p.cls.map fun _ => .bl true) ?_ (wa_nil ⟨p.cls.map fun _ => true, by rw [List.map_map]; rfl, by rw [all_true]; exact h⟩))))))
  refine wf_c (own := [("one", 1)]) (ns := [1]) C (blkOk_by (show blkC ["thing", "one"] (defScope (top 11)) _ _ = true by decide +kernel)) (by decide) (wi_tup (wd_var C lk0 mm0 ⟨_, rfl, ?_⟩))
  refine lc_map p.cls eN (fun _ => .bl true) (le_line (by omega)) rfl fun x hx q => ?_
  refine wg_in C ["one"] ["one"] ["is_number", "MOST_CLASS"] rfl rfl rfl fun C' => wg_name C' lk1 mm0 pt1 ?_
  intro q
  refine wd_in C ["one"] ["one"] ["is_number", "MOST_CLASS"] rfl rfl rfl fun C' => ?_
  refine wd_fn Tn (Nat.le_refl _) C' mm0 (wa_cons (wd_var C' lk1 mm0 (wa_cons (wd_int (wa_cons (wd_glob C' mm1 fx.gMOST_CLASS (wa_nil ⟨rfl, _, _, _, rfl, ?_⟩)))))))
  have := ok.cl x hx
  rw [decide_eq_true (by omega), decide_eq_true (by omega)]; rfl
/-! are_two -/
def nTwo : List Str := ["classes", "sign", "thing", "one"]
def cTwo : Ct := fun ds R => ∃ (p : Plan) (s : Nat) (t : Nat × Nat), ds = [eT p.cls, eN s, e2 t] ∧ p.Ok ∧ (s, t) ∈ p.rows ∧ R (.bl true)
theorem ok_two (fx : Fx M CT CS CB) (Tn : M.Fn "is_number" 1 3 cNumber) (Fd : FunD M.K "are_two" "are_two" (defArgs (top 12)) (defBody (top 12)) (defScope (top 12)) [] [] f fd) : FnOk M.P M.w M.K M.mg M.base CX0 2 f fd ["classes", "sign", "thing"] (spC M.P M.w M.K 3 cTwo) := by
  refine fn_ok (N := nTwo) ["classes", "sign", "thing"] ["classes", "sign", "thing"] ["isinstance", "tuple", "len", "all"] Fd (C8.fnScope_by (by decide +kernel)) rfl (by decide +kernel) (by decide +kernel) (by decide +kernel) fun q F0 H0 C ds R hl h => ?_
  obtain ⟨p, s, t, rfl, ok, hr, h⟩ := h
  have hrow := ok.row _ hr
  obtain ⟨r1, r2, r3, r4, r5⟩ := hrow
  refine wb_cons (ws_if (wt_w (ww_or (wt_not (wt_val (wd_isi C mm0 fx.n_isinstance mm1 fx.n_tuple b_tuple (wd_var C lk2 mm2 ⟨_, true, rfl, by decide +kernel, _, rfl, ite_f ?_⟩)))))))
  refine ww_or (wt_cmp (od_ne C) (wd_callB cd_lenT C mm2 fx.n_len b_len (wa_cons (wd_var C lk2 mm2 (wa_nil ⟨_, rfl, wd_int ⟨_, _, isK_I _, isK_I 2, _, rfl, ite_f ?_⟩⟩)))))
  refine ww_or1 (wt_not (wt_val (wd_callB (cd_all C) C mm3 fx.n_all b_all (wa_cons (wd_fresh (wf_eq ([t.1, t.2].map fun _ => .bl true) ?_ (wa_nil ⟨[t.1, t.2].map fun _ => true, rfl, _, rfl, ite_f (wb_nil ?_)⟩)))))))
  · refine wf_c (own := [("one", 3)]) (ns := [3]) C (blkOk_by (show blkC nTwo (defScope (top 12)) _ _ = true by decide +kernel)) (by decide) (wi_tup (wd_var C lk2 mm2 ⟨_, rfl, ?_⟩))
    refine lc_map [t.1, t.2] eN (fun _ => .bl true) ln2' rfl fun x hx q => ?_
    refine wg_in C ["one", "sign"] ["one"] ["is_number"] rfl rfl rfl fun C' => wg_name C' lk3 mm0 pt3 ?_
    intro q
    refine wd_in C ["one", "sign"] ["one"] ["is_number"] rfl rfl rfl fun C' => ?_
    refine wd_fn Tn (Nat.le_refl _) C' mm0 (wa_cons (wd_var C' lk3 mm0 (wa_cons (wd_int (wa_cons (wd_op od_sub (wd_var C' lk1 mm1 (wd_int ⟨_, _, rfl, rfl, wa_nil ⟨rfl, _, _, _, rfl, ?_⟩⟩))))))))
    have hxs : x < s := by
      rcases List.mem_cons.mp hx with rfl | hx
      · exact r2
      · rw [List.mem_singleton.mp hx]; exact r3
    rw [neg_and, decide_eq_true hxs]
  · have h1 : s < p.n := r1
    have h2 : t.1 < p.n := Nat.lt_trans r2 r1
    refine wb_one (ws_ret (wd_and (wd_cmp (od_eq C) (wd_ix xd_tup (wd_var C lk0 mm0 (wd_var C lk1 mm1 ⟨_, _, _, rfl, rfl, at_c h1, wd_int ⟨_, _, isK_N _, isK_N 0, _, rfl, ?_⟩⟩))))))
    rw [dec_N, show p.c s = 0 from r4]
    refine ite_t ?_
    refine wd_one (wd_cmp (od_eq C) (wd_ix xd_tup (wd_var C lk0 mm0 (wd_ix xd_tup (wd_var C lk2 mm2 (wd_int ⟨_, _, _, rfl, rfl, at_0, _, _, _, rfl, rfl, at_c h2, wd_int ⟨_, _, isK_N _, isK_N 0, ?_⟩⟩))))))
    rw [dec_N, show p.c t.1 = 0 from r5]
    exact h
/-! are_parts -/
def nParts : List Str := ["classes", "thing", "sign", "two"]
def cParts : Ct := fun ds R => ∃ (p : Plan), ds = [eT p.cls, .dk (rD p.rows)] ∧ p.Ok ∧ R (.bl true)
theorem ok_parts (fx : Fx M CT CS CB) (Tn : M.Fn "is_number" 1 3 cNumber) (T2 : M.Fn "are_two" 2 3 cTwo) (Fd : FunD M.K "are_parts" "are_parts" (defArgs (top 13)) (defBody (top 13)) (defScope (top 13)) [] [] f fd) : FnOk M.P M.w M.K M.mg M.base CX0 3 f fd ["classes", "thing"] (spC M.P M.w M.K 2 cParts) := by
  refine fn_ok (N := nParts) ["classes", "thing"] ["classes", "thing"] ["isinstance", "dict", "all", "len"] Fd (C8.fnScope_by (by decide +kernel)) rfl (by decide +kernel) (by decide +kernel) (by decide +kernel) fun q F0 H0 C ds R hl h => ?_
  obtain ⟨p, rfl, ok, h⟩ := h
  have hr := rows_few ok
  refine wb_cons (ws_if (wt_w (ww_or (wt_not (wt_val (wd_isi C mm0 fx.n_isinstance mm1 fx.n_dict b_dict (wd_var C lk1 mm1 ⟨_, true, rfl, by decide +kernel, _, rfl, ite_f ?_⟩)))))))
  refine ww_or1 (wt_not (wt_val (wd_callB (cd_all C) C mm2 fx.n_all b_all (wa_cons (wd_fresh (wf_eq (p.rows.map fun _ => .bl true) ?_ (wa_nil ⟨p.rows.map fun _ => true, by rw [List.map_map]; rfl, _, rfl, ?_⟩)))))))
  · refine wf_c (own := [("sign", 2)]) (ns := [2]) C (blkOk_by (show blkC nParts (defScope (top 13)) _ _ = true by decide +kernel)) (by decide) (wi_keysK (wd_var C lk1 mm1 ⟨_, rfl, ?_⟩))
    have ek : (rD p.rows).map (fun r => D.int r.1) = p.rows.map (fun r => eN r.1) := by unfold rD; rw [List.map_map]; rfl
    rw [ek]
    refine lc_map p.rows _ (fun _ => .bl true) (le_line (by omega)) rfl fun x hx q => ?_
    refine wg_in C ["sign", "classes"] ["sign"] ["is_number", "len"] rfl rfl rfl fun C' => wg_name C' lk2 mm0 pt2 ?_
    intro q
    refine wd_in C ["sign", "classes"] ["sign"] ["is_number", "len"] rfl rfl rfl fun C' => ?_
    refine wd_fn Tn (by omega) C' mm0 (wa_cons (wd_var C' lk2 mm0 (wa_cons (wd_int (wa_cons (wd_op od_sub (wd_callB cd_lenT C' mm1 fx.n_len b_len (wa_cons (wd_var C' lk0 mm1 (wa_nil ⟨_, rfl, wd_int ⟨_, _, rfl, rfl, wa_nil ⟨rfl, _, _, _, rfl, ?_⟩⟩⟩))))))))))
    rw [List.length_map, neg_and, decide_eq_true (ok.row x hx).1]
  · rw [all_true]
    refine ite_f (wb_nil ?_)
    refine wb_cons (ws_if (wt_not (wt_val (wd_callB (cd_all C) C mm2 fx.n_all b_all (wa_cons (wd_fresh (wf_eq (p.rows.map fun _ => .bl true) ?_ (wa_nil ⟨p.rows.map fun _ => true, by rw [List.map_map]; rfl, _, rfl, ?_⟩))))))))
    · refine wf_c (own := [("sign", 2), ("two", 3)]) (ns := [2, 3]) C (blkOk_by (show blkC nParts (defScope (top 13)) _ _ = true by decide +kernel)) (by decide) (wi_itemsK (wd_var C lk1 mm1 ⟨_, rfl, ?_⟩))
      rw [rows_dk]
      refine lc_map p.rows _ (fun _ => .bl true) (le_line (by omega)) rfl fun x hx q => ?_
      refine wg_in C ["sign", "two", "classes"] ["sign", "two"] ["are_two"] rfl rfl rfl fun C' => ?_
      refine wg_tup C' rfl (wgs_cons rfl (wg_name C' lk2 mm0 pt2 rfl) (wgs_cons rfl (wg_name C' lk3 mm1 pt3 rfl) (wgs_nil ?_))) rfl
      intro q
      refine wd_in C ["sign", "two", "classes"] ["sign", "two"] ["are_two"] rfl rfl rfl fun C' => ?_
      exact wd_fn T2 (by omega) C' mm0 (wa_cons (wd_var C' lk0 mm2 (wa_cons (wd_var C' lk2 mm0 (wa_cons (wd_var C' lk3 mm1 (wa_nil ⟨rfl, p, x.1, x.2, rfl, ok, hx, rfl⟩)))))))
    · rw [all_true]
      refine ite_f (wb_nil ?_)
      refine wb_one (ws_ret (wd_cmp (od_eq C) (wd_lenN C mm3 fx.n_len (wv_dcN (n := 3) C (blkOk_by (show blkC nParts (defScope (top 13)) _ _ = true by decide +kernel)) rfl (by decide +kernel) (by decide +kernel) (wi_valuesK (wd_var C lk1 mm1 ⟨_, rfl, ?_, p.rows.map (fun r => [kN r.2.1, kN r.2.2]), ?_, ?_, _, rfl, wd_callB cd_lenK C mm3 fx.n_len b_len (wa_cons (wd_var C lk1 mm1 (wa_nil ⟨_, rfl, _, _, isK_I _, isK_I _, ?_⟩)))⟩))))))
      · unfold rD
        rw [List.length_map, List.length_map]
        have := line_big; omega
      · unfold rD
        rw [List.map_map, List.map_map]
        exact List.map_congr_left fun r _ => e2_keys r.2
      · intro ks hk
        obtain ⟨r, _, rfl⟩ := List.mem_map.mp hk
        have := dep_tup [kN r.2.1, kN r.2.2] 0 fun k hk => by
          rcases List.mem_cons.mp hk with rfl | hk
          · rw [dep_kN]; exact Nat.le_refl _
          · rw [List.mem_singleton.mp hk, dep_kN]; exact Nat.le_refl _
        omega
      · have hnd : (p.rows.map (fun r => [kN r.2.1, kN r.2.2])).Nodup := by
          have h := ok.apart
          rw [List.Nodup, List.pairwise_map] at h ⊢
          exact h.imp fun {a b} hab e => by
            injection e with e1 e2
            injection e2 with e2 _
            exact hab (Prod.ext (kN_inj.mp e1) (kN_inj.mp e2))
        rw [firsts_nodup hnd]
        unfold trues rD
        rw [List.length_map, List.length_map, List.length_map, decide_eq_true rfl]
        exact h
end
end W3
end
section
set_option Elab.async false
set_option linter.all false
set_option maxRecDepth 100000
set_option maxHeartbeats 1000000
/-! WG: walks: making a table, the rest. -/
namespace W3
open PySem PySem.Spec PyProof.Rows L2 Pl

theorem look_ne {a b : Str} {d : D} {r : List (Str × D)} (h : (a == b) = false) : List.lookup a ((b, d) :: r) = List.lookup a r := by rw [List.lookup_cons, h]
theorem zip_tail (xs : List Nat) : (((xs.map eN).zip ((xs.drop 1).map eN)).map fun q => D.tup [q.1, q.2]) = (xs.zip (xs.drop 1)).map fun q => D.tup [eN q.1, eN q.2] := by
  rw [List.zip_map, List.map_map]; rfl
theorem pw_zip : ∀ {xs : List Nat}, xs.Pairwise (· < ·) → ∀ q ∈ xs.zip (xs.drop 1), q.1 < q.2
  | [], _, q, h => nomatch h
  | [_], _, q, h => nomatch h
  | a :: b :: xs, h, q, hq => by
    rw [List.pairwise_cons] at h
    rw [List.drop_succ_cons, List.drop_zero, List.zip_cons_cons] at hq
    rcases List.mem_cons.mp hq with rfl | hq
    · exact h.1 b List.mem_cons_self
    · exact pw_zip h.2 q (by rw [List.drop_succ_cons, List.drop_zero]; exact hq)
theorem two_some {p : Plan} {s : Nat} (h : s ∈ p.rows.map (·.1)) : (p.two s).isSome = true := by
  obtain ⟨r, hr, rfl⟩ := List.mem_map.mp h
  unfold Plan.two
  rw [Option.isSome_map, List.find?_isSome]
  exact ⟨r, hr, by simp⟩
theorem two_row {p : Plan} (ok : p.Ok) {r : Nat × Nat × Nat} (hr : r ∈ p.rows) : p.two r.1 = some r.2 := by
  obtain ⟨t, ht⟩ := Option.isSome_iff_exists.mp (two_some (p := p) (List.mem_map.mpr ⟨r, hr, rfl⟩))
  rw [ht]
  have h2 := two_mem ht
  -- keys apart
  have hn : ∀ {l : List (Nat × Nat × Nat)}, (l.map (·.1)).Pairwise (· < ·) → ∀ a ∈ l, ∀ b ∈ l, a.1 = b.1 → a = b := by
    intro l
    induction l with
    | nil => intro _ a ha; cases ha
    | cons c l ih =>
      intro h a ha b hb e
      rw [List.map_cons, List.pairwise_cons] at h
      rcases List.mem_cons.mp ha with ea | ha'
      · rcases List.mem_cons.mp hb with eb | hb'
        · rw [ea, eb]
        · have := h.1 b.1 (List.mem_map.mpr ⟨b, hb', rfl⟩); rw [← ea] at this; omega
      · rcases List.mem_cons.mp hb with eb | hb'
        · have := h.1 a.1 (List.mem_map.mpr ⟨a, ha', rfl⟩); rw [← eb] at this; omega
        · exact ih h.2 a ha' b hb' e
  have := hn ok.up _ h2 _ hr rfl
  rw [← this]
section
variable {M : Md} {CT CS CB : Addr} {f : Addr} {fd : FuncData}
def nClosed : List Str := ["parts", "thing", "one", "other", "sign"]
def cClosed : Ct := fun ds R => ∃ (p : Plan), ds = [.dk (rD p.rows), eT p.shut] ∧ p.Ok ∧ R (.bl true)
theorem ok_closed (fx : Fx M CT CS CB) (Tn : M.Fn "is_number" 1 3 cNumber) (Fd : FunD M.K "are_closed" "are_closed" (defArgs (top 14)) (defBody (top 14)) (defScope (top 14)) [] [] f fd) : FnOk M.P M.w M.K M.mg M.base CX0 2 f fd ["parts", "thing"] (spC M.P M.w M.K 2 cClosed) := by
  refine fn_ok (N := nClosed) ["parts", "thing"] ["parts", "thing"] ["isinstance", "tuple", "all", "zip"] Fd (C8.fnScope_by (by decide +kernel)) rfl (by decide +kernel) (by decide +kernel) (by decide +kernel) fun q F0 H0 C ds R hl h => ?_
  obtain ⟨p, rfl, ok, h⟩ := h
  have hs := shut_few ok
  refine wb_cons (ws_if (wt_w (ww_or (wt_not (wt_val (wd_isi C mm0 fx.n_isinstance mm1 fx.n_tuple b_tuple (wd_var C lk1 mm1 ⟨_, true, rfl, by decide +kernel, _, rfl, ite_f ?_⟩)))))))
  refine ww_or1 (wt_not (wt_val (wd_callB (cd_all C) C mm2 fx.n_all b_all (wa_cons (wd_fresh (wf_eq (p.shut.map fun _ => .bl true) ?_ (wa_nil ⟨p.shut.map fun _ => true, by rw [List.map_map]; rfl, _, rfl, ?_⟩)))))))
  · refine wf_c (own := [("sign", 4)]) (ns := [4]) C (blkOk_by (show blkC nClosed (defScope (top 14)) _ _ = true by decide +kernel)) (by decide) (wi_tup (wd_var C lk1 mm1 ⟨_, rfl, ?_⟩))
    refine lc_map p.shut eN (fun _ => .bl true) (le_line (by omega)) rfl fun x hx q => ?_
    refine wg_in C ["sign", "parts"] ["sign"] ["is_number", "MOST_SIGNS"] rfl rfl rfl fun C' => wg_name C' lk4 mm0 pt4 ?_
    intro q
    refine wd_in C ["sign", "parts"] ["sign"] ["is_number", "MOST_SIGNS"] rfl rfl rfl fun C' => ?_
    refine wd_and (wd_fn Tn (Nat.le_refl _) C' mm0 (wa_cons (wd_var C' lk4 mm0 (wa_cons (wd_int (wa_cons (wd_glob C' mm1 fx.gMOST_SIGNS (wa_nil ⟨rfl, _, _, _, rfl, _, rfl, ?_⟩))))))))
    have hlt : x < p.n := by
      obtain ⟨r, hr, e⟩ := List.mem_map.mp (ok.sin x hx)
      rw [← e]; exact (ok.row r hr).1
    have h4 : p.n ≤ 4 := ok.few
    rw [decide_eq_true (by omega), decide_eq_true (by omega)]
    refine ite_t ?_
    refine wd_one (wd_cmp (od_inK C') (wd_var C' lk4 mm0 (wd_var C' lk0 mm1 ⟨_, _, rfl, rfl, ?_⟩)))
    rw [dk_two, Option.isSome_map, two_some (ok.sin x hx)]
  · rw [all_true]
    refine ite_f (wb_nil ?_)
    refine wb_one (ws_ret (wd_callB (cd_all C) C mm2 fx.n_all b_all (wa_cons (wd_fresh (wf_eq ((p.shut.zip (p.shut.drop 1)).map fun _ => .bl true) ?_ (wa_nil ⟨(p.shut.zip (p.shut.drop 1)).map fun _ => true, by rw [List.map_map]; rfl, by rw [all_true]; exact h⟩))))))
    refine wf_c (own := [("one", 2), ("other", 3)]) (ns := [2, 3]) C (blkOk_by (show blkC nClosed (defScope (top 14)) _ _ = true by decide +kernel)) (by decide) (wi_zip C mm3 fx.n_zip (wd_var C lk1 mm1 ⟨_, rfl, wd_sliceT (POl := (· = some ((1 : Nat) : Int))) (POh := (· = none)) (wd_var C lk1 mm1 ⟨_, rfl, ?_⟩) (wo_some (wd_int ⟨_, rfl, rfl⟩)) (wo_none rfl)⟩))
    rintro _ _ rfl rfl
    rw [cutD_drop]
    refine ⟨_, rfl, ?_⟩
    rw [zip_tail]
    refine lc_map (p.shut.zip (p.shut.drop 1)) _ (fun _ => .bl true) (le_line (by rw [List.length_zip]; omega)) rfl fun x hx q => ?_
    refine wg_in C ["one", "other"] ["one", "other"] [] rfl rfl rfl fun C' => ?_
    refine wg_tup C' rfl (wgs_cons rfl (wg_name C' lk2 mm0 pt2 rfl) (wgs_cons rfl (wg_name C' lk3 mm1 pt3 rfl) (wgs_nil ?_))) rfl
    intro q
    refine wd_in C ["one", "other"] ["one", "other"] [] rfl rfl rfl fun C' => ?_
    refine wd_cmp od_lt (wd_var C' lk2 mm0 (wd_var C' lk3 mm1 ⟨_, _, rfl, rfl, ?_⟩))
    have := pw_zip ok.sup x hx
    rw [decide_eq_true (by omega)]
/-! Table.__init__ -/
def nInitT : List Str := ["self", "classes", "parts", "closed", "sign"]
def iTable (CT : Addr) : CtI := fun ds R => ∃ p : Plan, ds = [eT p.cls, .dk (rD p.rows), eT p.shut] ∧ p.Ok ∧ R [("classes", eT p.cls), ("rows", .ptup (rowsD (rD p.rows))), ("closed", eT p.shut)]
theorem ok_initT (fx : Fx M CT CS CB) (T1 : M.Fn "are_classes" 2 1 cClasses) (T2 : M.Fn "are_parts" 3 2 cParts) (T3 : M.Fn "are_closed" 2 2 cClosed) {kws : List (Str × V)} (Fd : FunD M.K "__init__" "Table.__init__" (defArgs (meth 15 0)) (defBody (meth 15 0)) (defScope (meth 15 0)) [] kws f fd) : FnOk M.P M.w M.K M.mg M.base CX0 4 f fd ["self", "classes", "parts", "closed"] (spI M.P M.w M.K CT 3 (iTable CT)) := by
  refine mk_ok (N := nInitT) ["self", "classes", "parts", "closed"] ["self", "classes", "parts", "closed"] ["are_classes", "are_parts", "are_closed", "tuple", "sorted"] Fd (C8.fnScope_by (by decide +kernel)) rfl (by decide +kernel) (by decide +kernel) (by decide +kernel) fun q F0 H0 ad C ds R hl h => ?_
  obtain ⟨p, rfl, ok, h⟩ := h
  have hr := rows_few ok
  refine wb_cons (ws_if (wt_not (wt_val (wd_fn T1 (by omega) C mm0 (wa_cons (wd_var C lk1 mm1 (wa_nil ⟨rfl, p, rfl, ok, _, rfl, ite_f (wb_nil ?_)⟩)))))))
  refine wb_cons (ws_if (wt_not (wt_val (wd_fn T2 (by omega) C mm1 (wa_cons (wd_var C lk1 mm1 (wa_cons (wd_var C lk2 mm2 (wa_nil ⟨rfl, p, rfl, ok, _, rfl, ite_f (wb_nil ?_)⟩)))))))))
  refine wb_cons (ws_if (wt_not (wt_val (wd_fn T3 (by omega) C mm2 (wa_cons (wd_var C lk2 mm2 (wa_cons (wd_var C lk3 mm3 (wa_nil ⟨rfl, p, rfl, ok, _, rfl, ite_f (wb_nil ?_)⟩)))))))))
  refine wb_cons (ws_fld C lk0 mm0 fx.cT (fx.aT _ mm0) (wd_var C lk1 mm1 ⟨rfl, by show 0 < 1000; omega, _, pt0, ?_⟩))
  refine wb_cons (ws_fld C lk0 mm0 fx.cT (fx.aT _ mm1) (wd_callTy cd_ptup C mm3 fx.n_tuple b_tuple (wa_cons (wd_fresh (wf_eq (rowsD (rD p.rows)) ?_ (wa_nil ⟨_, rfl, by show List.lookup _ [(_, _)] = none; rw [look_ne (by decide +kernel)]; rfl, by show 1 < 1000; omega, _, pt0, ?_⟩))))))
  · refine wf_c (own := [("sign", 4)]) (ns := [4]) C (blkOk_by (show blkC nInitT (defScope (meth 15 0)) _ _ = true by decide +kernel)) (by decide) (wi_lst (wd_callB (cd_sortedK C) C mm4 fx.n_sorted b_sorted (wa_cons (wd_var C lk2 mm2 (wa_nil ⟨_, rfl, by unfold rD; rw [List.length_map]; omega, ?_⟩)))))
    intro ys hp hs
    have ey : ys = p.rows.map fun r => ((r.1 : Nat) : Int) := by
      rw [rD_keys] at hp
      have hup : (p.rows.map fun r => ((r.1 : Nat) : Int)).Pairwise (· ≤ ·) := by
        have h := ok.up
        rw [List.pairwise_map] at h ⊢
        exact h.imp fun {a b} hab => by have : a.1 < b.1 := hab; omega
      exact List.Perm.eq_of_pairwise (fun a b _ _ h1 h2 => by omega) hs hup hp
    subst ey
    refine ⟨_, rfl, ?_⟩
    rw [List.map_map, rows_dk]
    refine lc_map p.rows _ (fun r => .tup [eN r.1, e2 r.2]) (le_line (by omega)) rfl fun x hx q => ?_
    refine wg_in C ["sign", "parts"] ["sign"] [] rfl rfl rfl fun C' => wg_name C' lk4 mm0 pt4 ?_
    intro q
    refine wd_in C ["sign", "parts"] ["sign"] [] rfl rfl rfl fun C' => ?_
    exact wd_tup (wa_cons (wd_var C' lk4 mm0 (wa_cons (wd_ixK C' (wd_var C' lk2 mm1 (wd_var C' lk4 mm0 ⟨_, _, e2 x.2, rfl, rfl, by rw [dk_two, two_row ok hx]; rfl, wa_nil ⟨ln2, rfl⟩⟩))))))
  · exact wb_one (ws_fld C lk0 mm0 fx.cT (fx.aT _ mm2) (wd_var C lk3 mm3 ⟨by show List.lookup _ [(_, _), (_, _)] = none; rw [look_ne (by decide +kernel), look_ne (by decide +kernel)]; rfl, by show 2 < 1000; omega, _, pt0, _, rfl, h⟩))
def cMade (CT : Addr) : Ct := fun ds R => ∃ p : Plan, ds = [planD p] ∧ p.Ok ∧ R (tabD CT p)
theorem ok_made (fx : Fx M CT CS CB) (Tt : MkT3 M.P M.w M.K M.mg M.base "Table" CT 4 (iTable CT)) (Fd : FunD M.K "_law_made" "_law_made" (defArgs (top 53)) (defBody (top 53)) (defScope (top 53)) [] [] f fd) : FnOk M.P M.w M.K M.mg M.base CX0 6 f fd ["_law_plan"] (spC M.P M.w M.K 1 (cMade CT)) := by
  refine fn_ok (N := ["_law_plan"]) ["_law_plan"] ["_law_plan"] ["Table"] Fd (C8.fnScope_by (by decide +kernel)) rfl (by decide +kernel) (by decide +kernel) (by decide +kernel) fun q F0 H0 C ds R hl h => ?_
  obtain ⟨p, rfl, ok, h⟩ := h
  exact wb_one (ws_ret (wd_make3 Tt (by omega) C mm0 (wa_cons (wd_ix xd_tup (wd_var C lk0 mm0 (wd_int ⟨_, _, _, rfl, rfl, at_0, wa_cons (wd_ix xd_tup (wd_var C lk0 mm0 (wd_int ⟨_, _, _, rfl, rfl, at_1, wa_nil ⟨rfl, wd_ix xd_tup (wd_var C lk0 mm0 (wd_int ⟨_, _, _, rfl, rfl, at_2, p, rfl, ok, h⟩))⟩⟩)))⟩))))))
end
end W3
end
section
set_option Elab.async false
set_option linter.all false
set_option maxRecDepth 100000
set_option maxHeartbeats 1000000
/-! WH: walks: the standings. -/
namespace W3
open PySem PySem.Spec PyProof.Rows L2 Pl

/-- a list, or a dict whose keys are taken -/
def IsLs (d : D) (xs : List D) : Prop := d = .lst xs ∨ ∃ kvs : List (NestedKey × D), d = .dn kvs ∧ xs = kvs.map fun p => ofK p.1
def encF (found : Plan.Fnd) : List (NestedKey × D) := found.map fun e => (.tup (kS e.1), eT e.2)
theorem encF_get (found : Plan.Fnd) (s : Stg) : nkGet (encF found) (.tup (kS s)) = (found.find? fun e => decide (e.1 = s)).map fun e => eT e.2 := by
  unfold encF nkGet
  induction found with
  | nil => rfl
  | cons e found ih =>
    rw [List.map_cons, List.find?_cons, List.find?_cons]
    have hd : decide ((NestedKey.tup (kS e.1), eT e.2).1 = NestedKey.tup (kS s)) = decide (e.1 = s) := by
      rw [Bool.eq_iff_iff, decide_eq_true_eq, decide_eq_true_eq, NestedKey.tup.injEq]; exact kS_inj
    rw [hd]
    cases decide (e.1 = s) with
    | true => rfl
    | false => exact ih
theorem encF_none {found : Plan.Fnd} {s : Stg} (h : s ∉ found.map (·.1)) : nkGet (encF found) (.tup (kS s)) = none := by
  rw [encF_get, Option.map_eq_none_iff, List.find?_eq_none]
  intro e he hd
  exact h (List.mem_map.mpr ⟨e, he, by simpa using hd⟩)
theorem encF_some {found : Plan.Fnd} {s : Stg} (h : s ∈ found.map (·.1)) : nkGet (encF found) (.tup (kS s)) = some (eT (Plan.getT found s)) := by
  rw [encF_get]
  unfold Plan.getT
  cases e : found.find? fun e => decide (e.1 = s) with
  | none =>
    rw [List.find?_eq_none] at e
    obtain ⟨x, hx, rfl⟩ := List.mem_map.mp h
    exact absurd (by simp) (e x hx)
  | some x => rfl
theorem encF_in (found : Plan.Fnd) (s : Stg) : (nkGet (encF found) (.tup (kS s))).isSome = decide (s ∈ found.map (·.1)) := by
  by_cases h : s ∈ found.map (·.1)
  · rw [encF_some h, decide_eq_true h]; rfl
  · rw [encF_none h, decide_eq_false h]; rfl
/-- what the search for standings keeps -/
structure SI (p : Plan) (found : Plan.Fnd) (line : List Stg) : Prop where
  nd : (found.map (·.1)).Nodup
  ok : ∀ e ∈ found, SOk p e.1
  tx : ∀ e ∈ found, (∀ x ∈ e.2, x < p.n) ∧ e.2.length < found.length
  sub : ∀ s ∈ line, s ∈ found.map (·.1)
theorem SI.few {p : Plan} (ok : p.Ok) {found : Plan.Fnd} {line : List Stg} (h : SI p found line) : found.length ≤ Plan.bS := by
  have := stg_few ok h.nd fun s hs => by
    obtain ⟨e, he, rfl⟩ := List.mem_map.mp hs
    exact h.ok e he
  rwa [List.length_map] at this
theorem SI.txt {p : Plan} {found : Plan.Fnd} {line : List Stg} (h : SI p found line) {s : Stg} (hs : s ∈ found.map (·.1)) : (∀ x ∈ Plan.getT found s, x < p.n) ∧ (Plan.getT found s).length < found.length := by
  unfold Plan.getT
  cases e : found.find? fun e => decide (e.1 = s) with
  | none =>
    rw [List.find?_eq_none] at e
    obtain ⟨x, hx, rfl⟩ := List.mem_map.mp hs
    exact absurd (by simp) (e x hx)
  | some x => exact h.tx x (List.mem_of_find?_eq_some e)
theorem SI.add {p : Plan} (ok : p.Ok) {j : Bool} {q : Plan.Fnd × List Stg} {s : Stg} {x : Nat} (h : SI p q.1 q.2) (hs : s ∈ q.1.map (·.1)) (hx : x < p.n) : SI p (p.sAdd j s q x).1 (p.sAdd j s q x).2 ∧ s ∈ (p.sAdd j s q x).1.map (·.1) ∧ (p.sAdd j s q x).2.length + q.1.length = q.2.length + (p.sAdd j s q x).1.length := by
  unfold Plan.sAdd
  cases er : p.readSign j s x with
  | none => exact ⟨h, hs, rfl⟩
  | some r =>
    dsimp only
    by_cases hm : r.1 ∈ q.1.map (·.1)
    · rw [if_pos hm]; exact ⟨h, hs, rfl⟩
    · rw [if_neg hm]
      obtain ⟨e0, he0, rfl⟩ := List.mem_map.mp hs
      have hr := readSign_ok ok (h.ok e0 he0) hx er
      have ht := h.txt hs
      refine ⟨⟨?_, ?_, ?_, ?_⟩, ?_, ?_⟩
      · rw [List.map_append, List.nodup_append]
        refine ⟨h.nd, by simp, fun a ha b hb e => ?_⟩
        rw [List.map_cons, List.map_nil, List.mem_singleton] at hb
        rw [e, hb] at ha; exact hm ha
      · intro e he
        rcases List.mem_append.mp he with he | he
        · exact h.ok e he
        · rw [List.mem_singleton.mp he]; exact hr.1
      · intro e he
        rw [List.length_append, List.length_singleton]
        rcases List.mem_append.mp he with he | he
        · have := h.tx e he; exact ⟨this.1, by omega⟩
        · rw [List.mem_singleton.mp he]
          refine ⟨fun y hy => ?_, by show (Plan.getT q.1 e0.1 ++ [x]).length < _; rw [List.length_append, List.length_singleton]; omega⟩
          rcases List.mem_append.mp hy with hy | hy
          · exact ht.1 y hy
          · rw [List.mem_singleton.mp hy]; exact hx
      · intro a ha
        rw [List.map_append]
        rcases List.mem_append.mp ha with ha | ha
        · exact List.mem_append_left _ (h.sub a ha)
        · exact List.mem_append_right _ (by rw [List.mem_singleton.mp ha]; simp)
      · rw [List.map_append]; exact List.mem_append_left _ hs
      · rw [List.length_append, List.length_append, List.length_singleton, List.length_singleton]; omega
theorem SI.fold {p : Plan} (ok : p.Ok) {j : Bool} {s : Stg} : ∀ (xs : List Nat) {q : Plan.Fnd × List Stg}, SI p q.1 q.2 → s ∈ q.1.map (·.1) → (∀ x ∈ xs, x < p.n) → SI p (xs.foldl (p.sAdd j s) q).1 (xs.foldl (p.sAdd j s) q).2 ∧ s ∈ (xs.foldl (p.sAdd j s) q).1.map (·.1) ∧ (xs.foldl (p.sAdd j s) q).2.length + q.1.length = q.2.length + (xs.foldl (p.sAdd j s) q).1.length
  | [], q, h, hs, _ => ⟨h, hs, rfl⟩
  | x :: xs, q, h, hs, hx => by
    obtain ⟨a1, a2, a3⟩ := h.add ok (j := j) hs (hx x List.mem_cons_self)
    obtain ⟨b1, b2, b3⟩ := SI.fold ok xs a1 a2 fun y hy => hx y (List.mem_cons_of_mem _ hy)
    rw [List.foldl_cons]
    exact ⟨b1, b2, by omega⟩
theorem eS_list (line : List Stg) : IsL (.lst (line.map eS)) (line.map fun s => .tup (kS s)) := ⟨by
    rw [ofKs_map, List.map_map]
    exact congrArg D.lst (List.map_congr_left fun x _ => (ofK_kS x).symm), fun k hk => by
    obtain ⟨x, _, rfl⟩ := List.mem_map.mp hk
    have := dep_kS x; omega, fun k hk => by
    obtain ⟨x, _, rfl⟩ := List.mem_map.mp hk
    exact noTx_kS x⟩
theorem tupl_T (xs : List Nat) : Tupl (eT xs) := .tup fun d hd => by
  obtain ⟨x, _, rfl⟩ := List.mem_map.mp hd
  exact .plain .int
section
variable {M : Md} {CT CS CB : Addr} {f : Addr} {fd : FuncData}
/-! Safe.__init__, Broken.__init__ -/
def iSafe : CtI := fun ds R => ∃ (d1 d2 : D) (xs ys : List D), ds = [d1, d2] ∧ IsLs d1 xs ∧ IsLs d2 ys ∧ R [("standings", .lst xs), ("seams", .lst ys)]
def nInitS : List Str := ["self", "standings", "seams"]
theorem wd_list {X : Cx} {F0 H0 : Hp} {ρ : Rho} {N L A G : List Str} {k n i : Nat} {P : D → Prop} {x : Str} {d : D} {xs : List D} {p p2 pos : Pos} (C : Cxt X N L A G k) (m : ("list" : Str) ∈ G) (hm : X.mg "list" = none) (l : Lk N ρ x n (.d d)) (m2 : x ∈ L) (h : IsLs d xs) (q : P (.lst xs))
    (he : starEach [.Name x p2] X.env = (false, eval (.Name x p2) X.env) :: starEach [] X.env := by rfl) : WD X F0 H0 ρ (.Call (.Name "list" p) [.Name x p2] [] pos) P := by
  rcases h with rfl | ⟨kvs, rfl, rfl⟩
  · exact wd_callTy cd_listL C m hm b_list (wa_cons (wd_var C l m2 (wa_nil ⟨_, .inl rfl, q⟩)))
  · exact wd_callTy (cd_listN C) C m hm b_list (wa_cons (wd_var C l m2 (wa_nil ⟨_, rfl, q⟩)))
theorem ok_initS (fx : Fx M CT CS CB) (Fd : FunD M.K "__init__" "Safe.__init__" (defArgs (meth 36 0)) (defBody (meth 36 0)) (defScope (meth 36 0)) [] [] f fd) : FnOk M.P M.w M.K M.mg M.base CX0 1 f fd nInitS (spI M.P M.w M.K CS 2 iSafe) := by
  refine mk_ok (N := nInitS) nInitS nInitS ["list"] Fd (C8.fnScope_by (by decide +kernel)) rfl (by decide +kernel) (by decide +kernel) (by decide +kernel) fun q F0 H0 ad C ds R hl h => ?_
  obtain ⟨d1, d2, xs, ys, rfl, h1, h2, h⟩ := h
  refine wb_cons (ws_fld C lk0 mm0 fx.cS (fx.aS _ mm0) (wd_list (i := 0) C mm0 fx.n_list lk1 mm1 h1 ⟨rfl, by show 0 < 1000; omega, _, pt0, ?_⟩))
  exact wb_one (ws_fld C lk0 mm0 fx.cS (fx.aS _ mm1) (wd_list (i := 0) C mm0 fx.n_list lk2 mm2 h2 ⟨by show List.lookup _ [(_, _)] = none; rw [look_ne (by decide +kernel)]; rfl, by show 1 < 1000; omega, _, pt0, _, rfl, h⟩))
def iBroken : CtI := fun ds R => ∃ (d1 d2 : D) (xs ys : List D), ds = [d1, d2] ∧ (d1 = .lst xs ∨ d1 = .tup xs) ∧ (d2 = .lst ys ∨ d2 = .tup ys) ∧ R [("one", .tup xs), ("other", .tup ys)]
def nInitB : List Str := ["self", "one", "other"]
theorem ok_initB (fx : Fx M CT CS CB) (Fd : FunD M.K "__init__" "Broken.__init__" (defArgs (meth 37 0)) (defBody (meth 37 0)) (defScope (meth 37 0)) [] [] f fd) : FnOk M.P M.w M.K M.mg M.base CX0 1 f fd nInitB (spI M.P M.w M.K CB 2 iBroken) := by
  refine mk_ok (N := nInitB) nInitB nInitB ["tuple"] Fd (C8.fnScope_by (by decide +kernel)) rfl (by decide +kernel) (by decide +kernel) (by decide +kernel) fun q F0 H0 ad C ds R hl h => ?_
  obtain ⟨d1, d2, xs, ys, rfl, h1, h2, h⟩ := h
  refine wb_cons (ws_fld C lk0 mm0 fx.cB (fx.aB _ mm0) (wd_callTy cd_tuple C mm0 fx.n_tuple b_tuple (wa_cons (wd_var C lk1 mm1 (wa_nil ⟨xs, by rcases h1 with rfl | rfl <;> simp, rfl, by show 0 < 1000; omega, _, pt0, ?_⟩)))))
  exact wb_one (ws_fld C lk0 mm0 fx.cB (fx.aB _ mm1) (wd_callTy cd_tuple C mm0 fx.n_tuple b_tuple (wa_cons (wd_var C lk2 mm2 (wa_nil ⟨ys, by rcases h2 with rfl | rfl <;> simp, by show List.lookup _ [(_, _)] = none; rw [look_ne (by decide +kernel)]; rfl, by show 1 < 1000; omega, _, pt0, _, rfl, h⟩)))))
/-! standings_of -/
def nStandings : List Str := ["table", "way", "found", "line", "standing", "sign", "row"]
def cStandings (CT : Addr) : Ct := fun ds R => ∃ (p : Plan) (j : Bool), ds = [tabD CT p, wayD j] ∧ p.Ok ∧ (SI p (p.standings j) [] → R (.dn (encF (p.standings j))))
theorem ok_standings (fx : Fx M CT CS CB) (Tl : MtT M.P M.w M.K M.mg M.base CT "__len__" 1 1 (fun ds R => ∃ p, ds = [tabD CT p] ∧ R (.int p.n))) (Tr : M.Fn "read_sign" 7 4 (cReadSign CT)) (Fd : FunD M.K "standings_of" "standings_of" (defArgs (top 30)) (defBody (top 30)) (defScope (top 30)) [] [] f fd) : FnOk M.P M.w M.K M.mg M.base CX0 8 f fd ["table", "way"] (spC M.P M.w M.K 2 (cStandings CT)) := by
  refine fn_ok (N := nStandings) nStandings nStandings ["FIRST", "range", "len", "read_sign"] Fd (C8.fnScope_by (by decide +kernel)) rfl (by decide +kernel) (by decide +kernel) (by decide +kernel) fun q F0 H0 C ds R hl h => ?_
  obtain ⟨p, j, rfl, ok, h⟩ := h
  have hn4 : p.n ≤ 4 := ok.few
  have l1 : (defScope (top 30)).names.lookup ("found" : Str) = some .local := by decide +kernel
  have l2 : (defScope (top 30)).names.lookup ("line" : Str) = some .local := by decide +kernel
  refine wb_cons (ws_par2 C lk2 lk3 (by decide) l1 l2 (wv_disp1 C (wd_glob C mm0 fx.gFIRST (wd_tup (wa_nil ⟨Nat.zero_le _, _, isT_S Plan.first, wv_f (wf_lst (wa_cons (wd_glob C mm0 fx.gFIRST (wa_nil ⟨ln1, _, _, pt2, pt3, ?_⟩))))⟩)))) rfl)
  have si0 : SI p [(Plan.first, [])] [Plan.first] := ⟨by simp, fun e he => by rw [List.mem_singleton.mp he]; exact first_ok p, fun e he => by rw [List.mem_singleton.mp he]; exact ⟨(fun _ z => nomatch z), by show 0 < 1; omega⟩, fun s hs => hs⟩
  refine wb_cons (ws_while C (fun m ρ' => ∃ (found : Plan.Fnd) (line : List Stg) (s4 s5 s6 : Sl), ρ' = [.d (tabD CT p), .d (wayD j), .ownN (encF found), .own (line.map eS), s4, s5, s6] ∧ SI p found line ∧ m ≤ Plan.bS ∧ m + found.length = line.length + Plan.bS ∧ p.sGo j m found line = p.standings j) Plan.bS ⟨[(Plan.first, [])], [Plan.first], _, _, _, rfl, si0, Nat.le_refl _, Nat.add_comm _ _, rfl⟩ ?_)
  rintro m ρ1 ⟨found, line, s4, s5, s6, rfl, si, hmb, hm, hg⟩
  have hfew := si.few ok
  have hbig : Plan.bS = 105 := rfl
  refine wt_thawL pt3 pt3 ?_
  refine wt_cmp (od_neL C) (wd_var C lk3 mm3 (wd_fresh (wf_lst (wa_nil ⟨Nat.zero_le _, _, [], eS_list line, isL_nil, _, rfl, ?_⟩))))
  cases line with
  | nil =>
    refine ite_f ?_
    have e : p.standings j = found := by
      rw [← hg]
      cases m with
      | zero => rfl
      | succ m => rfl
    refine wb_frzN pt2 pt2 ?_
    rw [e] at h
    exact wb_one (ws_ret (wd_var C lk2 mm2 (h si)))
  | cons s line =>
    refine ite_t ?_
    obtain ⟨m, rfl⟩ : ∃ m', m = m' + 1 := ⟨m - 1, by rw [List.length_cons] at hm; omega⟩
    have hg : p.sGo j m ((List.range p.n).foldl (p.sAdd j s) (found, line)).1 ((List.range p.n).foldl (p.sAdd j s) (found, line)).2 = p.standings j := hg
    have hsf : s ∈ found.map (·.1) := si.sub s List.mem_cons_self
    have si' : SI p found line := ⟨si.nd, si.ok, si.tx, fun a ha => si.sub a (List.mem_cons_of_mem _ ha)⟩
    have hso : SOk p s := by
      obtain ⟨e, he, rfl⟩ := List.mem_map.mp hsf
      exact si.ok e he
    have hf := SI.fold ok (j := j) (List.range p.n) (q := (found, line)) si' hsf fun x hx => List.mem_range.mp hx
    refine wb_cons (ws_pop (ns := [4]) C lk3 mm3 (wd_int ⟨0, eS s, rfl, rfl, by omega, _, pt3, wg_name C lk4 mm4 pt4 ?_⟩))
    refine wb_one (ws_for (ns := [5]) C (wi_range C mm1 fx.n_range (wd_callB (cd_lenO Tl (by omega) C) C mm2 fx.n_len b_len (wa_cons (wd_var C lk0 mm0 (wa_nil ⟨_, rfl, p, rfl, p.n, rfl, by omega, p.n, rfl, by omega, ?_⟩))))))
    refine ⟨fun i ρ' => ∃ s5 s6 : Sl, ρ' = [.d (tabD CT p), .d (wayD j), .ownN (encF (((List.range p.n).take i).foldl (p.sAdd j s) (found, line)).1), .own ((((List.range p.n).take i).foldl (p.sAdd j s) (found, line)).2.map eS), .d (eS s), s5, s6], ⟨_, _, rfl⟩, ?_, ?_⟩
    · rintro ρ' ⟨s5, s6, rfl⟩
      rw [upto_length, List.take_of_length_le (by rw [List.length_range]; exact Nat.le_refl _)]
      refine ⟨m, Nat.lt_succ_self _, _, _, _, _, _, rfl, hf.1, by omega, ?_, hg⟩
      have := hf.2.2
      simp only [List.length_cons] at hm this
      omega
    · rintro i d ρ1 ed ⟨s5, s6, rfl⟩
      have hi : i < p.n := by have := (List.getElem?_eq_some_iff.mp ed).1; rwa [upto_length] at this
      rw [upto_get hi] at ed
      cases ed
      have hq := SI.fold ok (j := j) ((List.range p.n).take i) (q := (found, line)) si' hsf fun x hx => List.mem_range.mp (List.mem_of_mem_take hx)
      have et : ((List.range p.n).take (i + 1)).foldl (p.sAdd j s) (found, line) = p.sAdd j s (((List.range p.n).take i).foldl (p.sAdd j s) (found, line)) i := by
        rw [List.take_succ, List.getElem?_range hi, Option.toList_some, List.foldl_append]; rfl
      dsimp only
      rw [et]
      generalize ((List.range p.n).take i).foldl (p.sAdd j s) (found, line) = q at hq ⊢
      obtain ⟨q1, q2, q3⟩ := hq
      have hqf := q1.few ok
      have hqt := q1.txt q2
      refine wg_name C lk5 mm5 pt5 ?_
      refine wb_cons (ws_set C lk6 mm6 (wv_d (wd_fn Tr (by omega) C mm3 (wa_cons (wd_var C lk0 mm0 (wa_cons (wd_var C lk1 mm1 (wa_cons (wd_var C lk4 mm4 (wa_cons (wd_var C lk5 mm5 (wa_nil ⟨rfl, p, j, s, i, rfl, ok, hso, hi, _, pt6, ?_⟩))))))))))))
      unfold Plan.sAdd
      refine wb_one (ws_if (wt_w (ww_and (wt_cmp od_notN (wd_var C lk6 mm6 (wd_non ⟨rfl, _, rfl, ?_⟩))))))
      rw [eR_isN]
      cases er : p.readSign j s i with
      | none => exact ite_f (ite_f (wb_nil ⟨_, _, rfl⟩))
      | some r =>
        dsimp only
        refine ite_t (ww_thawN pt2 pt2 ?_)
        refine ww_and1 (wt_cmp (od_ninN C) (wd_ix xd_tup (wd_var C lk6 mm6 (wd_int ⟨_, _, _, rfl, rfl, at_0, wd_var C lk2 mm2 ⟨_, _, isT_S r.1, .dm, _, rfl, ?_⟩⟩))))
        rw [encF_in]
        refine ite_ndec (fun hin => wb_nil ?_) (fun hin => ?_)
        · rw [if_pos hin]; exact ⟨_, _, rfl⟩
        · rw [if_neg hin]
          refine wb_cons (ws_putN C lk2 mm2 (wd_eq (eT (Plan.getT q.1 s ++ [i])) (wd_thawN pt2 pt2 ?_) (wd_ix xd_tup (wd_var C lk6 mm6 (wd_int ⟨_, _, _, rfl, rfl, at_0, _, isT_S r.1, encF_none hin, by unfold encF; rw [List.length_map]; exact Nat.lt_of_lt_of_le (by omega) line_big, _, pt2, ?_⟩)))))
          · refine wd_tup (wa_star (wd_ixN C (wd_var C lk2 mm2 (wd_var C lk4 mm4 ⟨_, _, _, .dm, isT_S s, encF_some q2, _, rfl, wa_cons (wd_var C lk5 mm5 (wa_nil ⟨?_, ?_, ?_⟩))⟩))))
            · exact le_line (by simp only [List.length_append, List.length_map, List.length_singleton]; omega)
            · have e : D.tup ((Plan.getT q.1 s).map eN ++ [eN i]) = eT (Plan.getT q.1 s ++ [i]) := by show _ = D.tup _; rw [List.map_append]; rfl
              rw [e]; exact tupl_T _
            · show _ = D.tup _; rw [List.map_append]; rfl
          · have e1 : encF (q.1 ++ [(r.1, Plan.getT q.1 s ++ [i])]) = encF q.1 ++ [(.tup (kS r.1), eT (Plan.getT q.1 s ++ [i]))] := by unfold encF; rw [List.map_append]; rfl
            have e2 : (q.2 ++ [r.1]).map eS = q.2.map eS ++ [eS r.1] := by rw [List.map_append]; rfl
            refine wb_one (ws_append C lk3 mm3 (wd_ix xd_tup (wd_var C lk6 mm6 (wd_int ⟨_, _, _, rfl, rfl, at_0, ?_, _, pt3, _, _, by rw [e1, e2]⟩))))
            rw [List.length_map]
            have := line_big
            simp only [List.length_cons] at hm
            simp only at q3
            omega
end
end W3
end
section
set_option Elab.async false
set_option linter.all false
set_option maxRecDepth 100000
set_option maxHeartbeats 2000000
/-! WI: walks: the search for seams. -/
namespace W3
open PySem PySem.Spec PyProof.Rows L2 Pl

abbrev eE (e : Plan.Ent) : D := .tup [eM e.1, eT e.2.1, eT e.2.2]
def encM (found : List Seam) : List (NestedKey × D) := found.map fun m => (.tup (kM m), .bl true)
theorem encM_in (found : List Seam) (m : Seam) : nkGet (encM found) (.tup (kM m)) = if m ∈ found then some (.bl true) else none := by
  unfold encM nkGet
  induction found with
  | nil => rfl
  | cons e found ih =>
    rw [List.map_cons, List.find?_cons]
    have hd : decide ((NestedKey.tup (kM e), D.bl true).1 = NestedKey.tup (kM m)) = decide (e = m) := by
      rw [Bool.eq_iff_iff, decide_eq_true_eq, decide_eq_true_eq, NestedKey.tup.injEq]; exact kM_inj
    rw [hd]
    by_cases h : e = m
    · rw [decide_eq_true h, if_pos (by rw [h]; exact List.mem_cons_self)]; rfl
    · rw [decide_eq_false h, ih]
      have q : (m ∈ e :: found) ↔ m ∈ found := by rw [List.mem_cons]; exact ⟨fun z => z.resolve_left fun z => h z.symm, .inr⟩
      simp only [q]
def kBh : Option (Option Seam) → NestedKey
  | none => .tup (kT [])
  | some none => .none
  | some (some m) => .tup (kM m)
theorem isK_Bh (o : Option (Option Seam)) : IsK (eBh o) (kBh o) := by
  match o with
  | none => exact isK_T []
  | some none => exact ⟨by show D.non = ofK .none; rw [ofK], by show (NestedKey.none).depth ≤ 8; simp only [NestedKey.depth]; omega, rfl⟩
  | some (some m) => exact isK_M m
theorem kBh_nil (o : Option (Option Seam)) : decide (kBh o = .tup (kT [])) = o.isNone := by
  match o with
  | none => exact decide_eq_true rfl
  | some none => exact decide_eq_false (fun h => nomatch h)
  | some (some m) =>
    refine decide_eq_false fun h => ?_
    have h : NestedKey.tup (kM m) = NestedKey.tup (kT []) := h
    injection h with h
    unfold kM at h
    cases h
theorem eE_list (line : List Plan.Ent) : IsL (.lst (line.map eE)) (line.map fun e => .tup [.tup (kM e.1), .tup (kT e.2.1), .tup (kT e.2.2)]) := by
  refine ⟨?_, fun k hk => ?_, fun k hk => ?_⟩
  · rw [ofKs_map, List.map_map]
    refine congrArg D.lst (List.map_congr_left fun e _ => ?_)
    show _ = ofK (.tup _)
    rw [ofK, ofKs, ofKs, ofKs, ofKs, ofK_kM, ofK_kT, ofK_kT]
  · obtain ⟨e, _, rfl⟩ := List.mem_map.mp hk
    have := dep_tup [.tup (kM e.1), .tup (kT e.2.1), .tup (kT e.2.2)] 3 fun k hk => by
      rcases List.mem_cons.mp hk with rfl | hk
      · exact dep_kM _
      · rcases List.mem_cons.mp hk with rfl | hk
        · have := dep_kT e.2.1; omega
        · rw [List.mem_singleton.mp hk]; have := dep_kT e.2.2; omega
    omega
  · obtain ⟨e, _, rfl⟩ := List.mem_map.mp hk
    rw [noTx, noTxs_all]
    simp only [List.all_cons, List.all_nil, noTx_kM, noTx_kT, Bool.and_self]
def safeD (CS : Addr) (xs ys : List D) : D := .ob CS [("standings", .lst xs), ("seams", .lst ys)]
def brokenD (CB : Addr) (a b : List Nat) : D := .ob CB [("one", eT a), ("other", eT b)]
def eJ (CS CB : Addr) (p : Plan) (j : Bool) : List Seam ⊕ (List Nat × List Nat) → D
  | .inl found => safeD CS ((p.standings j).map fun e => eS e.1) (found.map eM)
  | .inr b => brokenD CB b.1 b.2
/-- what is known of the answer -/
structure JR (p : Plan) (j : Bool) (start : Nat) : Prop where
  si : SI p (p.standings j) []
  ok : ∀ found, p.judged j start = .inl found → JI p j found []
  br : ∀ b, p.judged j start = .inr b → (∀ x ∈ b.1, x < p.n) ∧ b.1.length ≤ 105 ∧ (∀ x ∈ b.2, x < p.n) ∧ b.2.length ≤ 11026
theorem jAdd_cons (p : Plan) (j : Bool) (e : Plan.Ent) (q : List Seam × List Plan.Ent) (x : Nat) (xs : List Nat) : p.jAdd j e q (x :: xs) = (match p.behind j e.1 x with
  | none => p.jAdd j e q xs
  | some none => .inr (e.2.1, e.2.2 ++ [x])
  | some (some r) => if r ∈ q.1 then p.jAdd j e q xs else p.jAdd j e (q.1 ++ [r], q.2 ++ [(r, e.2.1, e.2.2 ++ [x])]) xs) := rfl
theorem even_cut (p : Plan) (j : Bool) (s : Stg) : p.isEven j (p.cutAt j s) = true := by
  unfold Plan.isEven Plan.cutAt
  have : p.held j Plan.first = [] := rfl
  simp [this]
section
variable {M : Md} {CT CS CB : Addr} {f : Addr} {fd : FuncData}
def nJudged : List Str := ["table", "way", "start", "texts", "found", "begins", "line", "least", "at", "seam", "one", "other", "sign", "late", "standing", "text", "begin"]
def gJudged : List Str := ["standings_of", "min", "list", "range", "len", "seam_behind", "Broken", "Safe"]
def cJudged (CT CS CB : Addr) : Ct := fun ds R => ∃ (p : Plan) (j : Bool) (start : Nat), ds = [tabD CT p, wayD j, eN start] ∧ p.Ok ∧ start < p.n ∧ (JR p j start → R (eJ CS CB p j (p.judged j start)))
theorem lens_eq (line : List Plan.Ent) : (line.map fun e => D.int ((e.2.1.length : Int) + (e.2.2.length : Int))) = (iN (line.map Plan.eLen)).map D.int := by
  rw [List.map_map, List.map_map]
  refine List.map_congr_left fun e _ => ?_
  show D.int _ = D.int ((Plan.eLen e : Nat) : Int)
  unfold Plan.eLen
  rw [Int.natCast_add]
theorem ok_judged (fx : Fx M CT CS CB) (Ts : M.Fn "standings_of" 8 2 (cStandings CT)) (Tcut : M.Fn "cut_at" 5 3 (cCut CT)) (Tb : M.Fn "seam_behind" 8 4 (cBehind CT)) (Tl : MtT M.P M.w M.K M.mg M.base CT "__len__" 1 1 (fun ds R => ∃ p, ds = [tabD CT p] ∧ R (.int p.n)))
    (TS : MkT M.P M.w M.K M.mg M.base "Safe" CS 1 2 iSafe) (TB : MkT M.P M.w M.K M.mg M.base "Broken" CB 1 2 iBroken) (Fd : FunD M.K "judged" "judged" (defArgs (top 39)) (defBody (top 39)) (defScope (top 39)) [] [] f fd) : FnOk M.P M.w M.K M.mg M.base CX0 9 f fd ["table", "way", "start"] (spC M.P M.w M.K 3 (cJudged CT CS CB)) := by
  refine fn_ok (N := nJudged) ["table", "way", "start", "texts", "found", "begins", "line", "least", "at", "seam", "one", "other", "sign", "late"] ["table", "way", "start", "texts", "found", "begins", "line", "least", "at", "seam", "one", "other", "sign", "late"] gJudged Fd (C8.fnScope_by (by decide +kernel)) rfl (by decide +kernel) (by decide +kernel) (by decide +kernel) fun q F0 H0 C ds R hl h => ?_
  obtain ⟨p, j, start, rfl, ok, hst, h⟩ := h
  have hn4 : p.n ≤ 4 := ok.few
  have l1 : (defScope (top 39)).names.lookup ("texts" : Str) = some .local := by decide +kernel
  have l2 : (defScope (top 39)).names.lookup ("found" : Str) = some .local := by decide +kernel
  have l3 : (defScope (top 39)).names.lookup ("begins" : Str) = some .local := by decide +kernel
  have l4 : (defScope (top 39)).names.lookup ("line" : Str) = some .local := by decide +kernel
  refine wb_cons (ws_par2 C lk3 lk4 (by decide) l1 l2 (wv_d (wd_fn Ts (Nat.le_refl _) C mm0 (wa_cons (wd_var C lk0 mm0 (wa_cons (wd_var C lk1 mm1 (wa_nil ⟨rfl, p, j, rfl, ok, fun si => wv_newN ⟨_, _, pt3, pt4, ?_⟩⟩))))))) rfl)
  have hsf := si.few ok
  have hbS : Plan.bS = 105 := rfl
  have hbJ : Plan.bJ = 11025 := rfl
  -- begins
  refine wb_cons (ws_c (own := [("standing", 14), ("text", 15)]) (ns := [14, 15]) C lk5 l3 (blkOk_by (show blkC nJudged (defScope (top 39)) _ _ = true by decide +kernel)) (by decide) (sw_true rfl l3 rfl rfl) (wi_itemsN (wd_var C lk3 mm3 ⟨_, rfl, ?_⟩)))
  have e0 : (encF (p.standings j)).map (fun q => D.tup [ofK q.1, q.2]) = (p.standings j).map (fun e => D.tup [eS e.1, eT e.2]) := by
    unfold encF; rw [List.map_map]; exact List.map_congr_left fun e _ => by show D.tup [ofK (.tup (kS e.1)), eT e.2] = _; rw [ofK_kS]
  rw [e0]
  refine lc_map (p.standings j) _ (fun e => eE (p.cutAt j e.1, e.2, [])) (le_line (by omega)) ⟨_, pt5, ?_⟩ fun e he q => ?_
  rotate_left
  · refine wg_in C ["standing", "text", "table", "way"] ["standing", "text"] ["cut_at"] rfl rfl rfl fun C' => ?_
    refine wg_tup C' rfl (wgs_cons rfl (wg_name C' lk14 mm0 pt14 rfl) (wgs_cons rfl (wg_name C' lk15 mm1 pt15 rfl) (wgs_nil ?_))) rfl
    intro q
    refine wd_in C ["standing", "text", "table", "way"] ["standing", "text"] ["cut_at"] rfl rfl rfl fun C' => ?_
    exact wd_tup (wa_cons (wd_fn Tcut (by omega) C' mm0 (wa_cons (wd_var C' lk0 mm2 (wa_cons (wd_var C' lk1 mm3 (wa_cons (wd_var C' lk14 mm0 (wa_nil ⟨rfl, p, j, e.1, rfl, ok, si.ok e he, wa_cons (wd_var C' lk15 mm1 (wa_cons (wd_tup (wa_nil ⟨Nat.zero_le _, wa_nil ⟨ln3, rfl⟩⟩))))⟩)))))))))
  -- line
  have e1 : (p.standings j).map (fun e => eE (p.cutAt j e.1, e.2, [])) = ((p.standings j).map fun e => (p.cutAt j e.1, e.2, ([] : List Nat))).map eE := by rw [List.map_map]; rfl
  rw [e1]
  have hbok : ∀ e ∈ (p.standings j).map (fun e => (p.cutAt j e.1, e.2, ([] : List Nat))), NOk p j 0 e := by
    intro e he
    obtain ⟨t, ht, rfl⟩ := List.mem_map.mp he
    have := si.tx t ht
    exact ⟨⟨si.ok t ht, first_ok p, even_cut p j t.1⟩, this.1, by show t.2.length ≤ 105; omega, (fun _ z => nomatch z), Nat.le_refl _⟩
  have hbl : ((p.standings j).map fun e => (p.cutAt j e.1, e.2, ([] : List Nat))).length ≤ 105 := by rw [List.length_map]; omega
  refine wb_frzL pt5 pt5 ?_
  refine wb_cons (ws_c (own := [("begin", 16)]) (ns := [16]) C lk6 l4 (blkOk_by (show blkC nJudged (defScope (top 39)) _ _ = true by decide +kernel)) (by decide) (sw_true rfl l4 rfl rfl) (wi_lst (wd_var C lk5 mm5 ⟨_, rfl, ?_⟩)))
  refine lc_filt _ _ (fun e => (p.behind j e.1 start).isSome) eE (le_line (by omega)) ⟨_, pt6, ?_⟩ fun e he q => ?_
  rotate_left
  · refine wg_in C ["begin", "table", "way", "start"] ["begin"] ["seam_behind"] rfl rfl rfl fun C' => wg_name C' lk16 mm0 pt16 ?_
    intro q
    refine wt_in C ["begin", "table", "way", "start"] ["begin"] ["seam_behind"] rfl rfl rfl fun C' => ?_
    have hm := (hbok e he).m
    have hml := hm.len ok
    refine wt_cmp (od_ne C') (wd_fn Tb (Nat.le_refl _) C' mm0 (wa_cons (wd_var C' lk0 mm1 (wa_cons (wd_var C' lk1 mm2 (wa_cons (wd_ix xd_tup (wd_var C' lk16 mm0 (wd_int ⟨_, _, _, rfl, rfl, at_0, wa_cons (wd_var C' lk2 mm3 (wa_nil ⟨rfl, p, j, e.1, start, rfl, ok, ⟨hm.a, hm.b, by omega⟩, hst, wd_tup (wa_nil ⟨Nat.zero_le _, _, _, isK_Bh _, isK_T [], _, rfl, ?_⟩)⟩))⟩)))))))))
    rw [kBh_nil]
    refine ⟨by cases p.behind j e.1 start <;> rfl, fun _ q => wd_in C ["begin", "table", "way", "start"] ["begin"] ["seam_behind"] rfl rfl rfl fun C' => wd_var C' lk16 mm0 rfl⟩
  -- the search
  have hb0 : p.begins j start = ((p.standings j).map fun e => (p.cutAt j e.1, e.2, ([] : List Nat))).filter fun e => (p.behind j e.1 start).isSome := rfl
  rw [← hb0]
  have ji0 : JI p j [] (p.begins j start) := ⟨List.nodup_nil, (fun _ z => nomatch z), fun e he => hbok e (by rw [hb0] at he; exact (List.mem_filter.mp he).1)⟩
  have hb1 : (p.begins j start).length ≤ 105 := by rw [hb0]; exact Nat.le_trans (List.length_filter_le _ _) hbl
  have hjd : p.judged j start = p.jGo j start ((p.begins j start).length + Plan.bJ) [] (p.begins j start) := rfl
  generalize p.begins j start = line0 at ji0 hb1 hjd
  refine wb_cons (ws_while C (fun m ρ' => ∃ (found : List Seam) (line : List Plan.Ent) (s5 s7 s8 s9 s10 s11 s12 s13 : Sl), ρ' = [.d (tabD CT p), .d (wayD j), .d (eN start), .d (.dn (encF (p.standings j))), .ownN (encM found), s5, .own (line.map eE), s7, s8, s9, s10, s11, s12, s13, .no, .no, .no] ∧ JI p j found line ∧ m ≤ 11130 ∧ m + found.length = line.length + Plan.bJ ∧ p.jGo j start m found line = p.judged j start) (line0.length + Plan.bJ) ⟨[], line0, _, _, _, _, _, _, _, _, rfl, ji0, by omega, rfl, hjd.symm⟩ ?_)
  rintro m ρ1 ⟨found, line, s5, s7, s8, s9, s10, s11, s12, s13, rfl, ji, hmb, hm, hg⟩
  have hfew := ji.few ok
  refine wt_thawL pt6 pt6 ?_
  refine wt_cmp (od_neL C) (wd_var C lk6 mm6 (wd_fresh (wf_lst (wa_nil ⟨Nat.zero_le _, _, [], eE_list line, isL_nil, _, rfl, ?_⟩))))
  cases line with
  | nil =>
    refine ite_f ?_
    have e : p.judged j start = .inl found := by
      rw [← hg]
      cases m with
      | zero => rfl
      | succ m => rfl
    refine wb_frzN pt4 pt4 ?_
    have jr : JR p j start := ⟨si, fun fd efd => by rw [e] at efd; cases efd; exact ji, fun b eb => by rw [e] at eb; cases eb⟩
    have h := h jr
    rw [e] at h
    refine wb_one (ws_ret (wd_make TS (by omega) C mm7 (wa_cons (wd_var C lk3 mm3 (wa_cons (wd_var C lk4 mm4 (wa_nil ⟨rfl, _, _, _, _, rfl, .inr ⟨_, rfl, rfl⟩, .inr ⟨_, rfl, rfl⟩, ?_⟩)))))))
    have e1 : (encF (p.standings j)).map (fun q => ofK q.1) = (p.standings j).map fun e => eS e.1 := by unfold encF; rw [List.map_map]; exact List.map_congr_left fun e _ => ofK_kS e.1
    have e2 : (encM found).map (fun q => ofK q.1) = found.map eM := by unfold encM; rw [List.map_map]; exact List.map_congr_left fun e _ => ofK_kM e
    show R (safeD CS _ _)
    rw [e1, e2]
    exact h
  | cons e1 line1 =>
    refine ite_t ?_
    generalize hline : e1 :: line1 = line at *
    have hne : line ≠ [] := by rw [← hline]; simp
    have hlen0 : 0 < line.length := by rw [← hline]; simp
    obtain ⟨m, rfl⟩ : ∃ m', m = m' + 1 := ⟨m - 1, by omega⟩
    have hpk := pick_lt hne
    have hge : line[Plan.pick line]? = some line[Plan.pick line] := List.getElem?_eq_getElem hpk
    have hg : (match line[Plan.pick line]? with
      | none => .inl found
      | some e => match p.jAdd j e (found, line.eraseIdx (Plan.pick line)) (p.signs start e.2.2) with
        | .inr b => .inr b
        | .inl q => p.jGo j start m q.1 q.2) = p.judged j start := hg
    rw [hge] at hg
    have hsz : line.length ≤ 1000000 := by omega
    -- least
    refine wb_cons (ws_set C lk7 mm7 (wv_d (wd_thawL pt6 pt6 (wd_eq (eN (Plan.minL (line.map Plan.eLen))) ?_ ⟨.int, _, pt7, ?_⟩))))
    · refine wd_callB (cd_min C) C mm1 fx.n_min b_min (wa_cons (wd_fresh (wf_eq (line.map fun e => D.int ((e.2.1.length : Int) + (e.2.2.length : Int))) ?_ (wa_nil ⟨_, by rw [lens_eq], by simpa using hlen0, fun v hv hle => ?_⟩))))
      · refine wf_c (own := [("seam", 9), ("one", 10), ("other", 11)]) (ns := [9, 10, 11]) C (blkOk_by (show blkC nJudged (defScope (top 39)) _ _ = true by decide +kernel)) (by decide) (wi_lst (wd_var C lk6 mm6 ⟨_, rfl, ?_⟩))
        refine lc_map line eE _ (le_line hsz) rfl fun e he q => ?_
        refine wg_in C ["seam", "one", "other"] ["seam", "one", "other"] ["len"] rfl rfl rfl fun C' => ?_
        refine wg_tup C' rfl (wgs_cons rfl (wg_name C' lk9 mm0 pt9 rfl) (wgs_cons rfl (wg_name C' lk10 mm1 pt10 rfl) (wgs_cons rfl (wg_name C' lk11 mm2 pt11 rfl) (wgs_nil ?_)))) rfl
        intro q
        refine wd_in C ["seam", "one", "other"] ["seam", "one", "other"] ["len"] rfl rfl rfl fun C' => ?_
        exact wd_op od_add (wd_callB cd_lenT C' mm0 fx.n_len b_len (wa_cons (wd_var C' lk10 mm1 (wa_nil ⟨_, rfl, wd_callB cd_lenT C' mm0 fx.n_len b_len (wa_cons (wd_var C' lk11 mm2 (wa_nil ⟨_, rfl, _, _, rfl, rfl, by rw [List.length_map, List.length_map]⟩)))⟩))))
      · obtain ⟨y, hy, rfl⟩ := List.mem_map.mp hv
        have h1 := minL_le y hy
        have h2 := hle ((Plan.minL (line.map Plan.eLen) : Nat) : Int) (List.mem_map.mpr ⟨_, minL_mem (by simpa using hne), rfl⟩)
        congr 1
        omega
    -- at
    · refine wb_cons (ws_set C lk8 mm8 (wv_d (wd_thawL pt6 pt6 (wd_eq (eN (Plan.pick line)) ?_ ⟨.int, _, pt8, ?_⟩))))
      · refine wd_index (wf_eq (line.map fun e => D.int ((e.2.1.length : Int) + (e.2.2.length : Int))) ?_ ⟨_, lens_eq line, wd_var C lk7 mm7 ⟨_, rfl, ?_, ?_⟩⟩)
        · refine wf_c (own := [("seam", 9), ("one", 10), ("other", 11)]) (ns := [9, 10, 11]) C (blkOk_by (show blkC nJudged (defScope (top 39)) _ _ = true by decide +kernel)) (by decide) (wi_lst (wd_var C lk6 mm6 ⟨_, rfl, ?_⟩))
          refine lc_map line eE _ (le_line hsz) rfl fun e he q => ?_
          refine wg_in C ["seam", "one", "other"] ["seam", "one", "other"] ["len"] rfl rfl rfl fun C' => ?_
          refine wg_tup C' rfl (wgs_cons rfl (wg_name C' lk9 mm0 pt9 rfl) (wgs_cons rfl (wg_name C' lk10 mm1 pt10 rfl) (wgs_cons rfl (wg_name C' lk11 mm2 pt11 rfl) (wgs_nil ?_)))) rfl
          intro q
          refine wd_in C ["seam", "one", "other"] ["seam", "one", "other"] ["len"] rfl rfl rfl fun C' => ?_
          exact wd_op od_add (wd_callB cd_lenT C' mm0 fx.n_len b_len (wa_cons (wd_var C' lk10 mm1 (wa_nil ⟨_, rfl, wd_callB cd_lenT C' mm0 fx.n_len b_len (wa_cons (wd_var C' lk11 mm2 (wa_nil ⟨_, rfl, _, _, rfl, rfl, by rw [List.length_map, List.length_map]⟩)))⟩))))
        · exact List.mem_map.mpr ⟨_, minL_mem (by simpa using hne), rfl⟩
        · rw [idxOf_iN]; rfl
      · -- the pop
        have hent := ji.ln _ (List.getElem_mem hpk)
        have hpk6 : Plan.pick line < 1000000 := by omega
        refine wb_cons (ws_pop (ns := [9, 10, 11]) C lk6 mm6 (wd_var C lk8 mm8 ⟨Plan.pick line, eE line[Plan.pick line], rfl, by rw [List.getElem?_map, hge]; rfl, hpk6, _, pt6, ?_⟩))
        have e6 : (line.map eE).eraseIdx (Plan.pick line) = (line.eraseIdx (Plan.pick line)).map eE := by
          have gen : ∀ (l : List Plan.Ent) (i : Nat), (l.map eE).eraseIdx i = (l.eraseIdx i).map eE := by
            intro l
            induction l with
            | nil => intro i; rfl
            | cons x l ih => intro i; cases i with
              | zero => rfl
              | succ i => rw [List.map_cons, List.eraseIdx_cons_succ, List.eraseIdx_cons_succ, List.map_cons, ih]
          exact gen _ _
        rw [e6]
        have jiE : JI p j found (line.eraseIdx (Plan.pick line)) := ⟨ji.nd, ji.ok, fun e he => ji.ln e (List.mem_of_mem_eraseIdx he)⟩
        have hle : (line.eraseIdx (Plan.pick line)).length + 1 = line.length := by rw [List.length_eraseIdx_of_lt hpk]; omega
        generalize line.eraseIdx (Plan.pick line) = lineE at jiE hle hg ⊢
        generalize line[Plan.pick line] = e at hent hg ⊢
        dsimp only at hg
        clear hge hpk hpk6
        refine wg_tup C rfl (wgs_cons rfl (wg_name C lk9 mm9 pt9 rfl) (wgs_cons rfl (wg_name C lk10 mm10 pt10 rfl) (wgs_cons rfl (wg_name C lk11 mm11 pt11 rfl) (wgs_nil ?_)))) rfl
        have hsg : ∀ x ∈ p.signs start e.2.2, x < p.n := by
          intro x hx
          unfold Plan.signs at hx
          split at hx
          · exact List.mem_range.mp hx
          · rw [List.mem_singleton.mp hx]; exact hst
        have hsl : (p.signs start e.2.2).length ≤ 4 := by
          unfold Plan.signs
          split
          · rw [List.length_range]; exact hn4
          · show 1 ≤ 4; omega
        have hml := hent.m.len ok
        refine wb_one (ws_for (ns := [12]) C (wi_lst (wd_eq (.lst ((p.signs start e.2.2).map eN)) ?_ ⟨_, rfl, fun i ρ' => ∃ (fd' : List Seam) (ln' : List Plan.Ent) (s12 s13 : Sl), ρ' = [.d (tabD CT p), .d (wayD j), .d (eN start), .d (.dn (encF (p.standings j))), .ownN (encM fd'), s5, .own (ln'.map eE), .d (eN (Plan.minL (line.map Plan.eLen))), .d (eN (Plan.pick line)), .d (eM e.1), .d (eT e.2.1), .d (eT e.2.2), s12, s13, .no, .no, .no] ∧ JI p j fd' ln' ∧ NOk p j fd'.length e ∧ ln'.length + found.length = lineE.length + fd'.length ∧ p.jAdd j e (fd', ln') ((p.signs start e.2.2).drop i) = p.jAdd j e (found, lineE) (p.signs start e.2.2), ⟨found, lineE, _, _, rfl, jiE, hent, rfl, rfl⟩, ?_, ?_⟩)))
        · refine wd_ifexp (wt_cmp (od_ne C) (wd_var C lk11 mm11 (wd_tup (wa_nil ⟨Nat.zero_le _, _, _, isK_T _, isK_T [], _, rfl, ?_⟩))))
          rw [dec_T]
          unfold Plan.signs
          refine ite_ndec (fun ho => ?_) (fun ho => ?_)
          · rw [if_neg (by simpa using ho)]
            exact wd_fresh (wf_lst (wa_cons (wd_var C lk2 mm2 (wa_nil ⟨ln1, rfl⟩))))
          · rw [if_pos ho]
            exact wd_listRg (x := "") (y := "") C mm2 fx.n_list mm3 fx.n_range (wd_callB (cd_lenO Tl (by omega) C) C mm4 fx.n_len b_len (wa_cons (wd_var C lk0 mm0 (wa_nil ⟨_, rfl, p, rfl, p.n, rfl, by omega, p.n, rfl, by omega, rfl⟩))))
        · rintro ρ' ⟨fd', ln', s12', s13', rfl, g1, g2, g3, g4⟩
          rw [List.length_map, List.drop_length] at g4
          have g4 : .inl (fd', ln') = p.jAdd j e (found, lineE) (p.signs start e.2.2) := g4
          rw [← g4] at hg
          exact ⟨m, Nat.lt_succ_self _, fd', ln', _, _, _, _, _, _, _, _, rfl, g1, by omega, by omega, hg⟩
        · rintro i d ρ1 ed ⟨fd', ln', s12', s13', rfl, g1, g2, g3, g4⟩
          have hi : i < (p.signs start e.2.2).length := by have := (List.getElem?_eq_some_iff.mp ed).1; rwa [List.length_map] at this
          rw [List.getElem?_map, List.getElem?_eq_getElem hi] at ed
          cases ed
          have hx := hsg _ (List.getElem_mem hi)
          rw [drop_at hi] at g4
          dsimp only
          generalize (p.signs start e.2.2)[i] = x at hx g4 ⊢
          have hfd := g1.few ok
          have hbl2 := g2.bl
          have hal2 := g2.al
          refine wg_name C lk12 mm12 pt12 ?_
          refine wb_cons (ws_set C lk13 mm13 (wv_d (wd_fn Tb (Nat.le_refl _) C mm5 (wa_cons (wd_var C lk0 mm0 (wa_cons (wd_var C lk1 mm1 (wa_cons (wd_var C lk9 mm9 (wa_cons (wd_var C lk12 mm12 (wa_nil ⟨rfl, p, j, e.1, x, rfl, ok, ⟨hent.m.a, hent.m.b, by omega⟩, hx, _, pt13, ?_⟩))))))))))))
          rw [jAdd_cons] at g4
          refine wb_cons (ws_if (wt_cmp od_isN (wd_var C lk13 mm13 (wd_non ⟨rfl, _, rfl, ?_⟩))))
          have eTs : D.tup (e.2.2.map eN ++ [eN x]) = eT (e.2.2 ++ [x]) := by show _ = D.tup _; rw [List.map_append]; rfl
          have hz2 : (e.2.2.map eN ++ [eN x]).length ≤ sizeLine := le_line (by rw [List.length_append, List.length_map]; show _ + 1 ≤ _; omega)
          cases eb : p.behind j e.1 x with
          | none =>
            rw [eb] at g4
            refine ite_f (wb_nil ?_)
            refine wb_one (ws_if (wt_w (ww_and (wt_cmp (od_ne C) (wd_var C lk13 mm13 (wd_tup (wa_nil ⟨Nat.zero_le _, _, _, isK_Bh none, isK_T [], _, rfl, ?_⟩)))))))
            rw [kBh_nil]
            exact ite_f (ite_f (wb_nil ⟨fd', ln', _, _, rfl, g1, g2, g3, g4⟩))
          | some o =>
            rw [eb] at g4
            cases o with
            | none =>
              have g4 : .inr (e.2.1, e.2.2 ++ [x]) = p.jAdd j e (found, lineE) (p.signs start e.2.2) := g4
              rw [← g4] at hg
              have hg : .inr (e.2.1, e.2.2 ++ [x]) = p.judged j start := hg
              have jr : JR p j start := ⟨si, (fun fd efd => by rw [← hg] at efd; cases efd), fun b eb => by
                rw [← hg] at eb; cases eb
                refine ⟨g2.a, by omega, fun y hy => ?_, by show (e.2.2 ++ [x]).length ≤ _; rw [List.length_append, List.length_singleton]; omega⟩
                rcases List.mem_append.mp hy with hy | hy
                · exact g2.b y hy
                · rw [List.mem_singleton.mp hy]; exact hx⟩
              have h := h jr
              rw [← hg] at h
              refine ite_t ?_
              exact wb_one (ws_ret (wd_make TB (by omega) C mm6 (wa_cons (wd_var C lk10 mm10 (wa_cons (wd_tup (wa_star (wd_var C lk11 mm11 ⟨_, rfl, wa_cons (wd_var C lk12 mm12 (wa_nil ⟨hz2, wa_nil ⟨rfl, _, _, _, _, rfl, .inr rfl, .inr rfl, by show R (D.ob CB [_, (_, D.tup (e.2.2.map eN ++ [eN x]))]); rw [eTs]; exact h⟩⟩))⟩))))))))
            | some r =>
              dsimp only at g4
              refine ite_f (wb_nil ?_)
              refine wb_one (ws_if (wt_w (ww_and (wt_cmp (od_ne C) (wd_var C lk13 mm13 (wd_tup (wa_nil ⟨Nat.zero_le _, _, _, isK_Bh (some (some r)), isK_T [], _, rfl, ?_⟩)))))))
              rw [kBh_nil]
              refine ite_t (ww_thawN pt4 pt4 ?_)
              refine ww_and1 (wt_cmp (od_ninN C) (wd_var C lk13 mm13 (wd_var C lk4 mm4 ⟨_, _, isT_M r, .dm, _, rfl, ?_⟩)))
              rw [encM_in]
              by_cases hin : r ∈ fd'
              · rw [if_pos hin] at g4 ⊢
                exact ite_f (wb_nil ⟨fd', ln', _, _, rfl, g1, g2, g3, g4⟩)
              · rw [if_neg hin] at g4 ⊢
                refine ite_t ?_
                obtain ⟨k1, k2⟩ := g1.put ok g2 hx (behind_E ok hent.m hx eb) hin
                have f1 : encM (fd' ++ [r]) = encM fd' ++ [(.tup (kM r), .bl true)] := by unfold encM; rw [List.map_append]; rfl
                have f2 : (ln' ++ [(r, e.2.1, e.2.2 ++ [x])]).map eE = ln'.map eE ++ [.tup [eM r, eT e.2.1, D.tup (e.2.2.map eN ++ [eN x])]] := by rw [List.map_append, eTs]; rfl
                have hzf : (encM fd').length < sizeLine := by unfold encM; rw [List.length_map]; exact Nat.lt_of_lt_of_le (by omega) line_big
                have hzl : (ln'.map eE).length < sizeLine := by rw [List.length_map]; exact Nat.lt_of_lt_of_le (by omega) line_big
                refine wb_cons (ws_putN C lk4 mm4 (wd_bl (wd_var C lk13 mm13 ⟨_, isT_M r, by rw [encM_in, if_neg hin], hzf, _, pt4, ?_⟩)))
                refine wb_one (ws_append C lk6 mm6 (wd_tup (wa_cons (wd_var C lk13 mm13 (wa_cons (wd_var C lk10 mm10 (wa_cons (wd_tup (wa_star (wd_var C lk11 mm11 ⟨_, rfl, wa_cons (wd_var C lk12 mm12 (wa_nil ⟨hz2, wa_nil ⟨ln3, hzl, _, pt6, ?_⟩⟩))⟩))))))))))
                refine ⟨fd' ++ [r], ln' ++ [(r, e.2.1, e.2.2 ++ [x])], _, _, by rw [f1, f2]; rfl, k1, k2, ?_, g4⟩
                rw [List.length_append, List.length_append, List.length_singleton, List.length_singleton]; omega
end
end W3
end
section
set_option Elab.async false
set_option linter.all false
set_option maxRecDepth 100000
set_option maxHeartbeats 2000000
/-! WJ: walks: judge and what asks it; Broken.shows. -/
namespace W3
open PySem PySem.Spec PyProof.Rows L2 Pl

section
variable {M : Md} {CT CS CB : Addr} {f : Addr} {fd : FuncData}
def isSafe (p : Plan) (j : Bool) (start : Nat) : Bool := match p.judged j start with
  | .inl _ => true
  | .inr _ => false
theorem ok_judge (fx : Fx M CT CS CB) (Tc : M.Fn "check_start" 3 3 (cCheckStart CT)) (Tj : M.Fn "judged" 9 3 (cJudged CT CS CB)) (Fd : FunD M.K "judge" "judge" (defArgs (top 41)) (defBody (top 41)) (defScope (top 41)) [] [] f fd) : FnOk M.P M.w M.K M.mg M.base CX0 10 f fd nCheckStart (spC M.P M.w M.K 3 (cJudged CT CS CB)) := by
  refine fn_ok (N := nCheckStart) nCheckStart nCheckStart ["check_start", "judged"] Fd (C8.fnScope_by (by decide +kernel)) rfl (by decide +kernel) (by decide +kernel) (by decide +kernel) fun q F0 H0 C ds R hl h => ?_
  obtain ⟨p, j, start, rfl, ok, hst, h⟩ := h
  refine wb_cons (ws_drop (wd_fn Tc (by omega) C mm0 (wa_cons (wd_var C lk0 mm0 (wa_cons (wd_var C lk1 mm1 (wa_cons (wd_var C lk2 mm2 (wa_nil ⟨rfl, p, j, start, rfl, ok, hst, ?_⟩)))))))))
  exact wb_one (ws_ret (wd_fn Tj (by omega) C mm1 (wa_cons (wd_var C lk0 mm0 (wa_cons (wd_var C lk1 mm1 (wa_cons (wd_var C lk2 mm2 (wa_nil ⟨rfl, p, j, start, rfl, ok, hst, h⟩)))))))))
theorem isi_J (fx : Fx M CT CS CB) (p : Plan) (j : Bool) (o : List Seam ⊕ (List Nat × List Nat)) : ∃ Cl fs, eJ CS CB p j o = .ob Cl fs ∧ IsiC M.K Cl ∧ PySem.W.kitOne M.K (.ref Cl) (.ref CS) = some (o.isLeft) ∧ PySem.W.kitOne M.K (.ref Cl) (.ref CB) = some (!o.isLeft) := by
  cases o with
  | inl x => exact ⟨CS, _, rfl, fx.iS, fx.kSS, fx.kSB⟩
  | inr x => exact ⟨CB, _, rfl, fx.iB, fx.kBS, fx.kBB⟩
def cIsSafe (CT : Addr) : Ct := fun ds R => ∃ (p : Plan) (j : Bool) (start : Nat), ds = [tabD CT p, wayD j, eN start] ∧ p.Ok ∧ start < p.n ∧ R (.bl (p.judged j start).isLeft)
theorem ok_isSafe (fx : Fx M CT CS CB) (Tj : M.Fn "judge" 10 3 (cJudged CT CS CB)) (Fd : FunD M.K "is_safe" "is_safe" (defArgs (top 42)) (defBody (top 42)) (defScope (top 42)) [] [] f fd) : FnOk M.P M.w M.K M.mg M.base CX0 11 f fd nCheckStart (spC M.P M.w M.K 3 (cIsSafe CT)) := by
  refine fn_ok (N := nCheckStart) nCheckStart nCheckStart ["isinstance", "judge", "Safe"] Fd (C8.fnScope_by (by decide +kernel)) rfl (by decide +kernel) (by decide +kernel) (by decide +kernel) fun q F0 H0 C ds R hl h => ?_
  obtain ⟨p, j, start, rfl, ok, hst, h⟩ := h
  obtain ⟨Cl, fs, e, i, k1, k2⟩ := isi_J fx p j (p.judged j start)
  exact wb_one (ws_ret (wd_isiO C mm0 fx.n_isinstance mm2 fx.gS (wd_fn Tj (by omega) C mm1 (wa_cons (wd_var C lk0 mm0 (wa_cons (wd_var C lk1 mm1 (wa_cons (wd_var C lk2 mm2 (wa_nil ⟨rfl, p, j, start, rfl, ok, hst, fun _ => ⟨Cl, fs, _, e, i, k1, h⟩⟩))))))))))
def soon (o : List Seam ⊕ (List Nat × List Nat)) : Option Nat := match o with
  | .inl _ => none
  | .inr b => some (b.1.length + b.2.length)
def cSoon (CT : Addr) : Ct := fun ds R => ∃ (p : Plan) (j : Bool) (start : Nat), ds = [tabD CT p, wayD j, eN start] ∧ p.Ok ∧ start < p.n ∧ R (eO (soon (p.judged j start)))
def nSoon : List Str := ["table", "way", "start", "found"]
theorem ok_soon (fx : Fx M CT CS CB) (Tj : M.Fn "judge" 10 3 (cJudged CT CS CB)) (Fd : FunD M.K "soonest" "soonest" (defArgs (top 43)) (defBody (top 43)) (defScope (top 43)) [] [] f fd) : FnOk M.P M.w M.K M.mg M.base CX0 11 f fd nCheckStart (spC M.P M.w M.K 3 (cSoon CT)) := by
  refine fn_ok (N := nSoon) nSoon nSoon ["judge", "isinstance", "Broken", "len"] Fd (C8.fnScope_by (by decide +kernel)) rfl (by decide +kernel) (by decide +kernel) (by decide +kernel) fun q F0 H0 C ds R hl h => ?_
  obtain ⟨p, j, start, rfl, ok, hst, h⟩ := h
  refine wb_cons (ws_set C lk3 mm3 (wv_d (wd_fn Tj (by omega) C mm0 (wa_cons (wd_var C lk0 mm0 (wa_cons (wd_var C lk1 mm1 (wa_cons (wd_var C lk2 mm2 (wa_nil ⟨rfl, p, j, start, rfl, ok, hst, fun _ => ⟨_, pt3, ?_⟩⟩))))))))))
  generalize p.judged j start = o at h ⊢
  cases o with
  | inl x => exact wb_one (ws_ret (wd_ifexp (wt_val (wd_isiO C mm1 fx.n_isinstance mm2 fx.gB (wd_var C lk3 mm3 ⟨_, _, _, rfl, fx.iS, fx.kSB, _, rfl, ite_f (wd_non h)⟩)))))
  | inr b =>
    refine wb_one (ws_ret (wd_ifexp (wt_val (wd_isiO C mm1 fx.n_isinstance mm2 fx.gB (wd_var C lk3 mm3 ⟨_, _, _, rfl, fx.iB, fx.kBB, _, rfl, ite_t ?_⟩)))))
    refine wd_op od_add (wd_callB cd_lenT C mm3 fx.n_len b_len (wa_cons (wd_fld (wd_var C lk3 mm3 ⟨_, _, _, rfl, fx.cB, fx.aB _ mm0, rfl, wa_nil ⟨_, rfl, wd_callB cd_lenT C mm3 fx.n_len b_len (wa_cons (wd_fld (wd_var C lk3 mm3 ⟨_, _, _, rfl, fx.cB, fx.aB _ mm1, by show List.lookup _ [(_, _), (_, _)] = _; rw [look_ne (by decide +kernel)]; rfl, wa_nil ⟨_, rfl, _, _, rfl, rfl, ?_⟩⟩)))⟩⟩))))
    rw [List.length_map, List.length_map]
    exact h
def cSafeStarts (CT : Addr) : Ct := fun ds R => ∃ (p : Plan) (j : Bool), ds = [tabD CT p, wayD j] ∧ p.Ok ∧ R (.lst (((List.range p.n).filter fun s => (p.judged j s).isLeft).map eN))
def nSafeStarts : List Str := ["table", "way", "start"]
theorem ok_safeStarts (fx : Fx M CT CS CB) (Tc : M.Fn "check_way" 2 2 (cCheckWay CT)) (Tl : MtT M.P M.w M.K M.mg M.base CT "__len__" 1 1 (fun ds R => ∃ p, ds = [tabD CT p] ∧ R (.int p.n))) (Tj : M.Fn "judged" 9 3 (cJudged CT CS CB)) (Fd : FunD M.K "safe_starts" "safe_starts" (defArgs (top 44)) (defBody (top 44)) (defScope (top 44)) [] [] f fd) : FnOk M.P M.w M.K M.mg M.base CX0 10 f fd nCheckWay (spC M.P M.w M.K 2 (cSafeStarts CT)) := by
  refine fn_ok (N := nSafeStarts) ["table", "way"] ["table", "way"] ["check_way", "range", "len"] Fd (C8.fnScope_by (by decide +kernel)) rfl (by decide +kernel) (by decide +kernel) (by decide +kernel) fun q F0 H0 C ds R hl h => ?_
  obtain ⟨p, j, rfl, ok, h⟩ := h
  have hn4 : p.n ≤ 4 := ok.few
  refine wb_cons (ws_drop (wd_fn Tc (by omega) C mm0 (wa_cons (wd_var C lk0 mm0 (wa_cons (wd_var C lk1 mm1 (wa_nil ⟨rfl, p, j, rfl, ?_⟩)))))))
  refine wb_one (ws_ret (wd_fresh (wf_c (own := [("start", 2)]) (ns := [2]) C (blkOk_by (show blkC nSafeStarts (defScope (top 44)) _ _ = true by decide +kernel)) (by decide) (wi_range C mm1 fx.n_range (wd_callB (cd_lenO Tl (by omega) C) C mm2 fx.n_len b_len (wa_cons (wd_var C lk0 mm0 (wa_nil ⟨_, rfl, p, rfl, p.n, rfl, by omega, p.n, rfl, by omega, ?_⟩))))))))
  refine lc_filt (List.range p.n) eN (fun s => (p.judged j s).isLeft) eN (le_line (by rw [List.length_range]; omega)) h fun x hx q => ?_
  refine wg_in C ["start", "table", "way"] ["start"] ["isinstance", "judged", "Safe"] rfl rfl rfl fun C' => wg_name C' lk2 mm0 pt2 ?_
  intro q
  refine wt_in C ["start", "table", "way"] ["start"] ["isinstance", "judged", "Safe"] rfl rfl rfl fun C' => ?_
  obtain ⟨Cl, fs, e, i, k1, k2⟩ := isi_J fx p j (p.judged j x)
  refine wt_val (wd_isiO C' mm0 fx.n_isinstance mm2 fx.gS (wd_fn Tj (by omega) C' mm1 (wa_cons (wd_var C' lk0 mm1 (wa_cons (wd_var C' lk1 mm2 (wa_cons (wd_var C' lk2 mm0 (wa_nil ⟨rfl, p, j, x, rfl, ok, List.mem_range.mp hx, fun _ => ⟨Cl, fs, _, e, i, k1, _, rfl, ?_⟩⟩)))))))))
  exact ⟨rfl, fun _ q => wd_in C ["start", "table", "way"] ["start"] ["isinstance", "judged", "Safe"] rfl rfl rfl fun C' => wd_var C' lk2 mm0 rfl⟩
/-! Broken.shows -/
def nShowsB : List Str := ["self", "table", "way", "start"]
/-- what a paper of pieces shows -/
def BrShows (p : Plan) (j : Bool) (start : Nat) (a b : List Nat) (t : Bool) : Prop :=
  if (p.wrongAt (a ++ b)).isNone && decide (b.take 1 = [start]) then (∀ x ∈ a ++ b, x < p.n) ∧ Harm p j a b (!t) else t = false
def cShowsB (CT CB : Addr) : Ct := fun ds R => ∃ (p : Plan) (j : Bool) (start : Nat) (a b : List Nat) (t : Bool), ds = [brokenD CB a b, tabD CT p, wayD j, eN start] ∧ p.Ok ∧ start < p.n ∧ a.length ≤ 15000 ∧ b.length ≤ 15000 ∧ BrShows p j start a b t ∧ R (.bl t)
theorem ok_showsB (fx : Fx M CT CS CB) (Tc : M.Fn "check_start" 3 3 (cCheckStart CT)) (Tt : M.Fn "is_tame" 8 2 (cTame CT)) (Th : M.Fn "are_harmless" 9 4 (cHarm CT)) (Fd : FunD M.K "shows" "Broken.shows" (defArgs (meth 37 2)) (defBody (meth 37 2)) (defScope (meth 37 2)) [] [] f fd) : FnOk M.P M.w M.K M.mg M.base CX0 10 f fd nShowsB (spC M.P M.w M.K 4 (cShowsB CT CB)) := by
  refine fn_ok (N := nShowsB) nShowsB nShowsB ["check_start", "is_tame", "are_harmless"] Fd (C8.fnScope_by (by decide +kernel)) rfl (by decide +kernel) (by decide +kernel) (by decide +kernel) fun q F0 H0 C ds R hl h => ?_
  obtain ⟨p, j, start, a, b, t, rfl, ok, hst, ha, hb, hs, h⟩ := h
  have lo1 : [(("one" : Str), eT a), (("other" : Str), eT b)].lookup ("other" : Str) = some (eT b) := by rw [look_ne (by decide +kernel)]; rfl
  refine wb_cons (ws_drop (wd_fn Tc (by omega) C mm0 (wa_cons (wd_var C lk1 mm1 (wa_cons (wd_var C lk2 mm2 (wa_cons (wd_var C lk3 mm3 (wa_nil ⟨rfl, p, j, start, rfl, ok, hst, ?_⟩)))))))))
  unfold BrShows at hs
  refine wb_cons (ws_if (wt_eq (!((p.wrongAt (a ++ b)).isNone && decide (b.take 1 = [start]))) ?_ ?_))
  · refine wt_w (ww_or (wt_not (wt_val (wd_fn Tt (by omega) C mm1 (wa_cons (wd_var C lk1 mm1 (wa_cons (wd_tup (wa_star (wd_fld (wd_var C lk0 mm0 ⟨_, _, _, rfl, fx.cB, fx.aB _ mm0, rfl, _, rfl, wa_star (wd_fld (wd_var C lk0 mm0 ⟨_, _, _, rfl, fx.cB, fx.aB _ mm1, lo1, _, rfl, wa_nil ⟨?_, wa_nil ⟨rfl, p, a ++ b, by rw [app_eq], ok, by rw [List.length_append]; omega, _, rfl, ?_⟩⟩⟩))⟩)))))))))))
    · exact le_line (by simp only [List.length_append, List.length_map, List.length_nil]; omega)
    · cases (p.wrongAt (a ++ b)).isNone with
      | false => exact ite_t rfl
      | true =>
        refine ite_f ?_
        rw [Bool.true_and]
        refine ww_or1 (wt_cmp (od_ne C) (wd_sliceT (POl := (· = none)) (POh := (· = some ((1 : Nat) : Int))) (wd_fld (wd_var C lk0 mm0 ⟨_, _, _, rfl, fx.cB, fx.aB _ mm1, lo1, _, rfl, ?_⟩)) (wo_none rfl) (wo_some (wd_int ⟨_, rfl, rfl⟩))))
        rintro _ _ rfl rfl
        rw [cutD_take]
        exact wd_tup (wa_cons (wd_var C lk3 mm3 (wa_nil ⟨ln1, _, _, isK_T _, isK_T [start], _, rfl, by rw [dec_T]⟩)))
  · cases hc : (p.wrongAt (a ++ b)).isNone && decide (b.take 1 = [start]) with
    | false =>
      rw [hc, if_neg Bool.false_ne_true] at hs
      rw [hs] at h
      exact ite_t (wb_one (ws_ret (wd_bl h)))
    | true =>
      rw [hc, if_pos rfl] at hs
      refine ite_f (wb_nil ?_)
      exact wb_one (ws_ret (wd_not (wd_fn Th (by omega) C mm2 (wa_cons (wd_var C lk1 mm1 (wa_cons (wd_var C lk2 mm2 (wa_cons (wd_fld (wd_var C lk0 mm0 ⟨_, _, _, rfl, fx.cB, fx.aB _ mm0, rfl, wa_cons (wd_fld (wd_var C lk0 mm0 ⟨_, _, _, rfl, fx.cB, fx.aB _ mm1, lo1, wa_nil ⟨rfl, p, j, a, b, !t, rfl, ok, hs.1, ha, hb, hs.2, _, rfl, by rw [Bool.not_not]; exact h⟩⟩))⟩))))))))))
end
end W3
end
section
set_option Elab.async false
set_option linter.all false
set_option maxRecDepth 100000
set_option maxHeartbeats 2000000
/-! WK: walks: Safe.shows. -/
namespace Pl
def uniq {α : Type} [DecidableEq α] (xs : List α) : List α := xs.foldl (fun acc x => if x ∈ acc then acc else acc ++ [x]) []
theorem uniq_mem {α : Type} [DecidableEq α] {x : α} {xs : List α} : x ∈ uniq xs ↔ x ∈ xs := by
  have gen : ∀ (l acc : List α), x ∈ l.foldl (fun acc x => if x ∈ acc then acc else acc ++ [x]) acc ↔ x ∈ acc ∨ x ∈ l := by
    intro l
    induction l with
    | nil => intro acc; simp
    | cons y l ih =>
      intro acc
      rw [List.foldl_cons, ih]
      by_cases h : y ∈ acc
      · rw [if_pos h, List.mem_cons]
        constructor
        · rintro (h1 | h1)
          · exact .inl h1
          · exact .inr (.inr h1)
        · rintro (h1 | h1 | h1)
          · exact .inl h1
          · exact .inl (h1 ▸ h)
          · exact .inr h1
      · rw [if_neg h, List.mem_append, List.mem_singleton, List.mem_cons]
        constructor
        · rintro ((h1 | h1) | h1)
          · exact .inl h1
          · exact .inr (.inl h1)
          · exact .inr (.inr h1)
        · rintro (h1 | h1 | h1)
          · exact .inl (.inl h1)
          · exact .inl (.inr h1)
          · exact .inr h1
  have := gen xs []
  simpa [uniq] using this
theorem uniq_len {α : Type} [DecidableEq α] (xs : List α) : (uniq xs).length ≤ xs.length := by
  have gen : ∀ (l acc : List α), (l.foldl (fun acc x => if x ∈ acc then acc else acc ++ [x]) acc).length ≤ acc.length + l.length := by
    intro l
    induction l with
    | nil => intro acc; exact Nat.le_refl _
    | cons y l ih =>
      intro acc
      have := ih (if y ∈ acc then acc else acc ++ [y])
      rw [List.foldl_cons, List.length_cons]
      split at this
      · rw [if_pos (by assumption)]; omega
      · rw [List.length_append, List.length_singleton] at this; rw [if_neg (by assumption)]; omega
  have := gen xs []
  simpa [uniq] using this
theorem uniq_all {α : Type} [DecidableEq α] (xs : List α) (P : α → Bool) : (uniq xs).all P = xs.all P := by
  rw [Bool.eq_iff_iff, List.all_eq_true, List.all_eq_true]
  exact ⟨fun h x hx => h x (uniq_mem.mpr hx), fun h x hx => h x (uniq_mem.mp hx)⟩
namespace Plan
variable (p : Plan)
def goesIn (j : Bool) (sts : List Stg) (s : Stg) (x : Nat) : Bool := match p.readSign j s x with
  | none => true
  | some r => decide (r.1 ∈ sts)
def closed (j : Bool) (sts : List Stg) : Bool := sts.all fun s => (List.range p.n).all fun x => p.goesIn j sts s x
def bhIn (sms : List Seam) : Option (Option Seam) → Bool
  | none => true
  | some none => false
  | some (some r) => decide (r ∈ sms)
def showsS (j : Bool) (start : Nat) (sts : List Stg) (sms : List Seam) : Bool := decide (first ∈ sts) && (p.closed j sts && (sms.all (p.isEven j) && ((sts.all fun s => bhIn sms (p.behind j (p.cutAt j s) start)) && (sms.all fun m => (List.range p.n).all fun x => bhIn sms (p.behind j m x)))))
end Plan
end Pl
namespace W3
open PySem PySem.Spec PyProof.Rows L2 Pl
theorem firsts_map {α : Type} [DecidableEq α] (g : α → List NestedKey) (inj : ∀ a b, g a = g b → a = b) (xs : List α) : firsts (xs.map g) = (uniq xs).map g := by
  have gen : ∀ (l acc : List α), (l.map g).foldl addN (acc.map g) = (l.foldl (fun acc x => if x ∈ acc then acc else acc ++ [x]) acc).map g := by
    intro l
    induction l with
    | nil => intro acc; rfl
    | cons y l ih =>
      intro acc
      rw [List.map_cons, List.foldl_cons, List.foldl_cons]
      have e : addN (acc.map g) (g y) = (if y ∈ acc then acc else acc ++ [y]).map g := by
        unfold addN
        by_cases h : y ∈ acc
        · rw [if_pos h, if_pos (List.mem_map.mpr ⟨y, h, rfl⟩)]
        · rw [if_neg h, if_neg fun hm => by
            obtain ⟨z, hz, e⟩ := List.mem_map.mp hm
            exact h (inj z y e ▸ hz)]
          rw [List.map_append]; rfl
      rw [e, ih]
  exact gen xs []
theorem trues_in {α : Type} [DecidableEq α] (g : α → List NestedKey) (inj : ∀ a b, g a = g b → a = b) (xs : List α) (a : α) [Decidable (a ∈ xs)] : (nkGet (trues ((uniq xs).map g)) (.tup (g a))).isSome = decide (a ∈ xs) := by
  rw [trues_get]
  by_cases h : a ∈ xs
  · rw [if_pos (List.mem_map.mpr ⟨a, uniq_mem.mpr h, rfl⟩), decide_eq_true h]; rfl
  · rw [if_neg, decide_eq_false h]
    · rfl
    · intro hm
      obtain ⟨z, hz, e⟩ := List.mem_map.mp hm
      exact h (inj z a e ▸ uniq_mem.mp hz)
theorem trues_keys {α : Type} (g : α → List NestedKey) (e : α → D) (he : ∀ a, ofK (.tup (g a)) = e a) (xs : List α) : (trues (xs.map g)).map (fun q => ofK q.1) = xs.map e := by
  unfold trues
  rw [List.map_map, List.map_map]
  exact List.map_congr_left fun a _ => he a
theorem eS_keys (s : Stg) : eS s = .tup (ofKs (kS s)) := (isT_S s).eq
theorem eM_keys (m : Seam) : eM m = .tup (ofKs (kM m)) := (isT_M m).eq
theorem all_map_b {α : Type} (xs : List α) (P : α → Bool) : (xs.map P).all id = xs.all P := by rw [List.all_map]; rfl
section
variable {M : Md} {CT CS CB : Addr} {f : Addr} {fd : FuncData}
def nShowsS : List Str := ["self", "table", "way", "start", "known", "standing", "sign", "row", "seams", "begins", "late", "seam"]
def lShowsS : List Str := ["self", "table", "way", "start", "known", "standing", "sign", "row", "seams", "begins", "late"]
def gShowsS : List Str := ["check_start", "FIRST", "range", "len", "read_sign", "all"]
/-- no seam in sight breaks -/
def NoBreak (p : Plan) (j : Bool) (start : Nat) (sts : List Stg) (sms : List Seam) : Prop := (decide (Plan.first ∈ sts) && (p.closed j sts && sms.all (p.isEven j))) = true → (∀ s ∈ sts, p.behind j (p.cutAt j s) start ≠ some none) ∧ ∀ m ∈ sms, ∀ x, x < p.n → p.behind j m x ≠ some none
def cShowsS (CT CS : Addr) : Ct := fun ds R => ∃ (p : Plan) (j : Bool) (start : Nat) (sts : List Stg) (sms : List Seam), ds = [safeD CS (sts.map eS) (sms.map eM), tabD CT p, wayD j, eN start] ∧ p.Ok ∧ start < p.n ∧ (∀ s ∈ sts, SOk p s) ∧ (∀ m ∈ sms, MOk p m) ∧ sts.length ≤ 100000 ∧ sms.length ≤ 100000 ∧ NoBreak p j start sts sms ∧ R (.bl (p.showsS j start sts sms))
theorem ok_showsS (fx : Fx M CT CS CB) (Tc : M.Fn "check_start" 3 3 (cCheckStart CT)) (Tl : MtT M.P M.w M.K M.mg M.base CT "__len__" 1 1 (fun ds R => ∃ p, ds = [tabD CT p] ∧ R (.int p.n))) (Tr : M.Fn "read_sign" 7 4 (cReadSign CT)) (Te : M.Fn "is_even" 5 3 (cEven CT)) (Tcut : M.Fn "cut_at" 5 3 (cCut CT)) (Tb : M.Fn "seam_behind" 8 4 (cBehind CT))
    (Fd : FunD M.K "shows" "Safe.shows" (defArgs (meth 36 2)) (defBody (meth 36 2)) (defScope (meth 36 2)) [] [] f fd) : FnOk M.P M.w M.K M.mg M.base CX0 9 f fd nShowsB (spC M.P M.w M.K 4 (cShowsS CT CS)) := by
  refine fn_ok (N := nShowsS) lShowsS lShowsS gShowsS Fd (C8.fnScope_by (by decide +kernel)) rfl (by decide +kernel) (by decide +kernel) (by decide +kernel) fun q F0 H0 C ds R hl h => ?_
  obtain ⟨p, j, start, sts, sms, rfl, ok, hst, hso, hmo, hsl, hml, hnb, h⟩ := h
  have hn4 : p.n ≤ 4 := ok.few
  have hul := uniq_len sts
  have huml := uniq_len sms
  have lo1 : [(("standings" : Str), D.lst (sts.map eS)), (("seams" : Str), D.lst (sms.map eM))].lookup ("seams" : Str) = some (.lst (sms.map eM)) := by rw [look_ne (by decide +kernel)]; rfl
  have l4 : (defScope (meth 36 2)).names.lookup ("known" : Str) = some .local := by decide +kernel
  have l8 : (defScope (meth 36 2)).names.lookup ("seams" : Str) = some .cell := by decide +kernel
  have l9 : (defScope (meth 36 2)).names.lookup ("begins" : Str) = some .local := by decide +kernel
  have l10 : (defScope (meth 36 2)).names.lookup ("late" : Str) = some .local := by decide +kernel
  have kSi : ∀ a b : Stg, kS a = kS b → a = b := fun a b => kS_inj.mp
  have kMi : ∀ a b : Seam, kM a = kM b → a = b := fun a b => kM_inj.mp
  unfold Plan.showsS at h
  unfold NoBreak at hnb
  refine wb_cons (ws_drop (wd_fn Tc (by omega) C mm0 (wa_cons (wd_var C lk1 mm1 (wa_cons (wd_var C lk2 mm2 (wa_cons (wd_var C lk3 mm3 (wa_nil ⟨rfl, p, j, start, rfl, ok, hst, ?_⟩)))))))))
  -- known
  refine wb_cons (ws_dcN (n := 5) C lk4 l4 (blkOk_by (show blkC nShowsS (defScope (meth 36 2)) _ _ = true by decide +kernel)) rfl (by decide +kernel) (by decide +kernel) (sw_trueD rfl l4 rfl rfl) (wi_lst (wd_fld (wd_var C lk0 mm0 ⟨_, _, _, rfl, fx.cS, fx.aS _ mm0, rfl, _, rfl, Nat.lt_of_lt_of_le (by rw [List.length_map]; omega) line_big, sts.map kS, by rw [List.map_map]; exact List.map_congr_left fun s _ => eS_keys s, ?_, _, pt4, ?_⟩))))
  · intro ks hk
    obtain ⟨s, _, rfl⟩ := List.mem_map.mp hk
    have := dep_kS s; omega
  rw [firsts_map kS kSi]
  refine wb_frzN pt4 pt4 ?_
  refine wb_cons (ws_if (wt_cmp (od_ninN C) (wd_glob C mm1 fx.gFIRST (wd_var C lk4 mm4 ⟨_, _, isT_S Plan.first, .dn, _, rfl, ?_⟩))))
  rw [trues_in kS kSi]
  refine ite_ndec (fun h1 => wb_nil ?_) (fun h1 => ?_)
  rotate_left
  · rw [decide_eq_false h1, Bool.false_and] at h
    exact wb_one (ws_ret (wd_bl h))
  rw [decide_eq_true h1, Bool.true_and] at h hnb
  -- closed
  refine wb_cons (ws_for (ns := [5]) C (wi_keysN (wd_var C lk4 mm4 ⟨_, rfl, ?_⟩)))
  rw [trues_keys kS eS ofK_kS]
  refine ⟨fun i ρ' => ∃ s5 s6 s7 : Sl, ρ' = [.d (safeD CS (sts.map eS) (sms.map eM)), .d (tabD CT p), .d (wayD j), .d (eN start), .d (.dn (trues ((uniq sts).map kS))), s5, s6, s7, .no, .no, .no, .no] ∧ ∀ s ∈ (uniq sts).take i, ∀ x, x < p.n → p.goesIn j sts s x = true, ⟨_, _, _, rfl, by intro s hs; rw [List.take_zero] at hs; cases hs⟩, ?_, ?_⟩
  · rintro ρ' ⟨s5, s6, s7, rfl, hcl⟩
    rw [List.length_map, List.take_length] at hcl
    have hclosed : p.closed j sts = true := by
      unfold Plan.closed
      rw [List.all_eq_true]
      intro s hs
      rw [List.all_eq_true]
      intro x hx
      exact hcl s (uniq_mem.mpr hs) x (List.mem_range.mp hx)
    rw [hclosed, Bool.true_and] at h hnb
    -- seams
    refine wb_cons (ws_set C lk8 mm8 (wv_dcN (n := 11) C (blkOk_by (show blkC nShowsS (defScope (meth 36 2)) _ _ = true by decide +kernel)) rfl (by decide +kernel) (by decide +kernel) (wi_lst (wd_fld (wd_var C lk0 mm0 ⟨_, _, _, rfl, fx.cS, fx.aS _ mm1, lo1, _, rfl, Nat.lt_of_lt_of_le (by rw [List.length_map]; omega) line_big, sms.map kM, by rw [List.map_map]; exact List.map_congr_left fun s _ => eM_keys s, ?_, _, pt8, ?_⟩)))))
    · intro ks hk
      obtain ⟨s, _, rfl⟩ := List.mem_map.mp hk
      have := dep_kM s; omega
    rw [firsts_map kM kMi]
    refine wb_frzN pt8 pt8 ?_
    refine wb_cons (ws_if (wt_not (wt_val (wd_callB (cd_all C) C mm5 fx.n_all b_all (wa_cons (wd_fresh (wf_eq ((uniq sms).map fun m => .bl (p.isEven j m)) ?_ (wa_nil ⟨(uniq sms).map (p.isEven j), by rw [List.map_map]; rfl, _, rfl, ?_⟩))))))))
    · refine wf_c (own := [("seam", 11)]) (ns := [11]) C (blkOk_by (show blkC nShowsS (defScope (meth 36 2)) _ _ = true by decide +kernel)) (by decide) (wi_keysN (wd_var C lk8 mm8 ⟨_, rfl, ?_⟩))
      rw [trues_keys kM eM ofK_kM]
      refine lc_map (uniq sms) eM (fun m => .bl (p.isEven j m)) (le_line (by omega)) rfl fun m hm q => ?_
      have hm' := hmo m (uniq_mem.mp hm)
      refine wg_in C ["seam", "table", "way"] ["seam"] ["is_even"] rfl rfl rfl fun C' => wg_name C' lk11 mm0 pt11 ?_
      intro q
      refine wd_in C ["seam", "table", "way"] ["seam"] ["is_even"] rfl rfl rfl fun C' => ?_
      exact wd_fn Te (by omega) C' mm0 (wa_cons (wd_var C' lk1 mm1 (wa_cons (wd_var C' lk2 mm2 (wa_cons (wd_var C' lk11 mm0 (wa_nil ⟨rfl, p, j, m, rfl, ok, hm'.a, hm'.b, by have := hm'.l; omega, rfl⟩)))))))
    · rw [all_map_b, uniq_all]
      cases hev : sms.all (p.isEven j) with
      | false =>
        rw [hev, Bool.false_and] at h
        exact ite_t (wb_one (ws_ret (wd_bl h)))
      | true =>
        rw [hev, Bool.true_and] at h
        obtain ⟨nb1, nb2⟩ := hnb hev
        refine ite_f (wb_nil ?_)
        -- begins
        refine wb_cons (ws_c (own := [("standing", 5)]) (ns := [5]) C lk9 l9 (blkOk_by (show blkC nShowsS (defScope (meth 36 2)) _ _ = true by decide +kernel)) (by decide) (sw_true rfl l9 rfl rfl) (wi_keysN (wd_var C lk4 mm4 ⟨_, rfl, ?_⟩)))
        rw [trues_keys kS eS ofK_kS]
        refine lc_map (uniq sts) eS (fun s => eBh (p.behind j (p.cutAt j s) start)) (le_line (by omega)) ⟨_, pt9, ?_⟩ fun s hs q => ?_
        rotate_left
        · have hs' := hso s (uniq_mem.mp hs)
          have hh := (held_ok (j := j) ok hs').1
          refine wg_in C ["standing", "table", "way", "start"] ["standing"] ["seam_behind", "cut_at"] rfl rfl rfl fun C' => wg_name C' lk5 mm0 pt5 ?_
          intro q
          refine wd_in C ["standing", "table", "way", "start"] ["standing"] ["seam_behind", "cut_at"] rfl rfl rfl fun C' => ?_
          exact wd_fn Tb (Nat.le_refl _) C' mm0 (wa_cons (wd_var C' lk1 mm1 (wa_cons (wd_var C' lk2 mm2 (wa_cons (wd_fn Tcut (by omega) C' mm1 (wa_cons (wd_var C' lk1 mm1 (wa_cons (wd_var C' lk2 mm2 (wa_cons (wd_var C' lk5 mm0 (wa_nil ⟨rfl, p, j, s, rfl, ok, hs', wa_cons (wd_var C' lk3 mm3 (wa_nil ⟨rfl, p, j, _, start, rfl, ok, ⟨hs', first_ok p, by show (p.held j s).length ≤ 10000; omega⟩, hst, rfl⟩))⟩)))))))))))))
        refine wb_frzL pt9 pt9 ?_
        -- late
        refine wb_drop pt5 (wb_drop pt6 (wb_drop pt7 ?_))
        refine wb_cons (ws_c2 (own := [("seam", 11), ("sign", 6)]) (ns := [11]) (ns1 := [6]) (vs1 := [6]) C lk10 l10 (blkOk_by (show blkC nShowsS (defScope (meth 36 2)) _ _ = true by decide +kernel)) (by decide) (by decide) (by decide) (sw_true rfl l10 rfl rfl) (uniq sms) (List.range p.n) eM eN (fun m x => eBh (p.behind j m x)) (by rw [List.length_range]; have h1 : (uniq sms).length * p.n ≤ 100000 * 4 := Nat.mul_le_mul (by omega) hn4; omega) (wi_keysN (wd_var C lk8 mm8 ⟨_, rfl, trues_keys kM eM ofK_kM _, _, pt10, ?_⟩)) fun m hm q => ?_)
        rotate_left
        · have hm' := hmo m (uniq_mem.mp hm)
          refine wg_in C ["seam", "sign", "table", "way"] ["seam", "sign"] ["seam_behind", "range", "len"] rfl rfl rfl fun C' => wg_name C' lk11 mm0 pt11 ⟨?_, ?_, ?_⟩
          · exact noOwn_of rfl
          · intro q
            refine wi_in C ["seam", "sign", "table", "way"] ["seam", "sign"] ["seam_behind", "range", "len"] rfl rfl rfl fun C' => ?_
            exact wi_range C' mm1 fx.n_range (wd_callB (cd_lenO Tl (by omega) C') C' mm2 fx.n_len b_len (wa_cons (wd_var C' lk1 mm2 (wa_nil ⟨_, rfl, p, rfl, p.n, rfl, by omega, p.n, rfl, by omega, rfl⟩))))
          · intro x hx q
            refine wg_in C ["seam", "sign", "table", "way"] ["seam", "sign"] ["seam_behind", "range", "len"] rfl rfl rfl fun C' => wg_name C' lk6 mm1 pt6 ?_
            intro q
            refine wd_in C ["seam", "sign", "table", "way"] ["seam", "sign"] ["seam_behind", "range", "len"] rfl rfl rfl fun C' => ?_
            exact wd_fn Tb (Nat.le_refl _) C' mm0 (wa_cons (wd_var C' lk1 mm2 (wa_cons (wd_var C' lk2 mm3 (wa_cons (wd_var C' lk11 mm0 (wa_cons (wd_var C' lk6 mm1 (wa_nil ⟨rfl, p, j, m, x, rfl, ok, hm', List.mem_range.mp hx, rfl⟩)))))))))
        refine wb_frzL pt10 pt10 ?_
        have ebl : ∀ (os : List (Option (Option Seam))), (∀ o ∈ os, o ≠ some none) → os.length ≤ 1000000 → (R (.bl (os.all (Plan.bhIn sms)))) → True := fun _ _ _ _ => trivial
        clear ebl
        have eos : (uniq sts).map (fun s => eBh (p.behind j (p.cutAt j s) start)) ++ ((uniq sms).flatMap fun m => (List.range p.n).map fun x => eBh (p.behind j m x)) = (((uniq sts).map fun s => p.behind j (p.cutAt j s) start) ++ ((uniq sms).flatMap fun m => (List.range p.n).map fun x => p.behind j m x)).map eBh := by
          rw [List.map_append, List.map_map, List.map_flatMap]
          simp only [List.map_map]
          rfl
        have hall : ((((uniq sts).map fun s => p.behind j (p.cutAt j s) start) ++ ((uniq sms).flatMap fun m => (List.range p.n).map fun x => p.behind j m x)).all (Plan.bhIn sms)) = ((sts.all fun s => Plan.bhIn sms (p.behind j (p.cutAt j s) start)) && (sms.all fun m => (List.range p.n).all fun x => Plan.bhIn sms (p.behind j m x))) := by
          rw [List.all_append, List.all_map, List.all_flatMap]
          simp only [List.all_map]
          rw [← uniq_all sts, ← uniq_all sms]
          rfl
        have hnone : ∀ o ∈ (((uniq sts).map fun s => p.behind j (p.cutAt j s) start) ++ ((uniq sms).flatMap fun m => (List.range p.n).map fun x => p.behind j m x)), o ≠ some none := by
          intro o ho
          rcases List.mem_append.mp ho with ho | ho
          · obtain ⟨s, hs, rfl⟩ := List.mem_map.mp ho
            exact nb1 s (uniq_mem.mp hs)
          · obtain ⟨m, hm, ho⟩ := List.mem_flatMap.mp ho
            obtain ⟨x, hx, rfl⟩ := List.mem_map.mp ho
            exact nb2 m (uniq_mem.mp hm) x (List.mem_range.mp hx)
        have hlen : (((uniq sts).map fun s => p.behind j (p.cutAt j s) start) ++ ((uniq sms).flatMap fun m => (List.range p.n).map fun x => p.behind j m x)).length ≤ 1000000 := by
          rw [List.length_append, List.length_map, List.length_flatMap]
          simp only [List.length_map, List.length_range]
          rw [List.map_const', List.sum_replicate_nat]
          have h1 : (uniq sms).length * p.n ≤ 100000 * 4 := Nat.mul_le_mul (by omega) hn4
          omega
        rw [← hall] at h
        generalize ((uniq sts).map fun s => p.behind j (p.cutAt j s) start) ++ ((uniq sms).flatMap fun m => (List.range p.n).map fun x => p.behind j m x) = os at eos hnone hlen h
        refine wb_one (ws_ret (wd_callB (cd_all C) C mm5 fx.n_all b_all (wa_cons (wd_fresh (wf_eq (os.map fun o => .bl (Plan.bhIn sms o)) ?_ (wa_nil ⟨os.map (Plan.bhIn sms), by rw [List.map_map]; rfl, by rw [all_map_b]; exact h⟩))))))
        refine wf_c (own := [("seam", 11)]) (ns := [11]) C (blkOk_by (show blkC nShowsS (defScope (meth 36 2)) _ _ = true by decide +kernel)) (by decide) (wi_lst (wd_fresh (wf_lst (wa_starL (wd_var C lk9 mm9 ⟨_, rfl, wa_starL (wd_var C lk10 mm10 ⟨_, rfl, wa_nil ⟨?_, _, rfl, ?_⟩⟩)⟩)))))
        · rw [List.append_nil, eos, List.length_map]; exact le_line hlen
        · rw [List.append_nil, eos]
          refine lc_map os eBh (fun o => .bl (Plan.bhIn sms o)) (le_line hlen) rfl fun o ho q => ?_
          refine wg_in C ["seam", "seams"] ["seam"] [] rfl rfl rfl fun C' => wg_name C' lk11 mm0 pt11 ?_
          intro q
          refine wd_in C ["seam", "seams"] ["seam"] [] rfl rfl rfl fun C' => ?_
          refine wd_or (wd_cmp (od_eq C') (wd_var C' lk11 mm0 (wd_tup (wa_nil ⟨Nat.zero_le _, _, _, isK_Bh o, isK_T [], _, rfl, ?_⟩))))
          rw [kBh_nil]
          match o, hnone o ho with
          | none, _ => exact ite_t rfl
          | some none, hn => exact absurd rfl hn
          | some (some r), _ =>
            refine ite_f ?_
            refine wd_one (wd_cmp (od_inN C') (wd_var C' lk11 mm0 (wd_var C' lk8 mm1 ⟨_, _, isT_M r, .dn, ?_⟩)))
            rw [trues_in kM kMi]; rfl
  · rintro i d ρ1 ed ⟨s5, s6, s7, rfl, hcl⟩
    have hi : i < (uniq sts).length := by have := (List.getElem?_eq_some_iff.mp ed).1; rwa [List.length_map] at this
    rw [List.getElem?_map, List.getElem?_eq_getElem hi] at ed
    cases ed
    have hs := uniq_mem.mp (List.getElem_mem hi)
    have et : (uniq sts).take (i + 1) = (uniq sts).take i ++ [(uniq sts)[i]] := by rw [List.take_succ, List.getElem?_eq_getElem hi]; rfl
    dsimp only
    rw [et]
    generalize (uniq sts)[i] = s at hs ⊢
    have hs' := hso s hs
    refine wg_name C lk5 mm5 pt5 ?_
    refine wb_one (ws_for (ns := [6]) C (wi_range C mm2 fx.n_range (wd_callB (cd_lenO Tl (by omega) C) C mm3 fx.n_len b_len (wa_cons (wd_var C lk1 mm1 (wa_nil ⟨_, rfl, p, rfl, p.n, rfl, by omega, p.n, rfl, by omega, ?_⟩))))))
    refine ⟨fun k ρ' => ∃ s6 s7 : Sl, ρ' = [.d (safeD CS (sts.map eS) (sms.map eM)), .d (tabD CT p), .d (wayD j), .d (eN start), .d (.dn (trues ((uniq sts).map kS))), .d (eS s), s6, s7, .no, .no, .no, .no] ∧ ∀ x, x < k → p.goesIn j sts s x = true, ⟨_, _, rfl, fun x hx => absurd hx (Nat.not_lt_zero _)⟩, ?_, ?_⟩
    · rintro ρ' ⟨s6, s7, rfl, hk⟩
      rw [upto_length] at hk
      refine ⟨_, _, _, rfl, fun s' hs' x hx => ?_⟩
      rcases List.mem_append.mp hs' with hs' | hs'
      · exact hcl s' hs' x hx
      · rw [List.mem_singleton.mp hs']; exact hk x hx
    · rintro k d ρ1 ed ⟨s6, s7, rfl, hk⟩
      have hkn : k < p.n := by have := (List.getElem?_eq_some_iff.mp ed).1; rwa [upto_length] at this
      rw [upto_get hkn] at ed
      cases ed
      refine wg_name C lk6 mm6 pt6 ?_
      refine wb_cons (ws_set C lk7 mm7 (wv_d (wd_fn Tr (by omega) C mm4 (wa_cons (wd_var C lk1 mm1 (wa_cons (wd_var C lk2 mm2 (wa_cons (wd_var C lk5 mm5 (wa_cons (wd_var C lk6 mm6 (wa_nil ⟨rfl, p, j, s, k, rfl, ok, hs', hkn, _, pt7, ?_⟩))))))))))))
      refine wb_one (ws_if (wt_eq (!p.goesIn j sts s k) ?_ ?_))
      · refine wt_w (ww_and (wt_cmp od_notN (wd_var C lk7 mm7 (wd_non ⟨rfl, _, rfl, ?_⟩))))
        rw [eR_isN]
        unfold Plan.goesIn
        cases p.readSign j s k with
        | none => exact ite_f rfl
        | some r =>
          refine ite_t ?_
          refine ww_and1 (wt_cmp (od_ninN C) (wd_ix xd_tup (wd_var C lk7 mm7 (wd_int ⟨_, _, _, rfl, rfl, at_0, wd_var C lk4 mm4 ⟨_, _, isT_S r.1, .dn, _, rfl, ?_⟩⟩))))
          rw [trues_in kS kSi]
      · cases hg : p.goesIn j sts s k with
        | true =>
          refine ite_f (wb_nil ⟨_, _, rfl, fun x hx => ?_⟩)
          by_cases e : x = k
          · rw [e]; exact hg
          · exact hk x (by omega)
        | false =>
          have hcf : p.closed j sts = false := by
            unfold Plan.closed
            rw [List.all_eq_false]
            refine ⟨s, hs, ?_⟩
            rw [Bool.not_eq_true, List.all_eq_false]
            exact ⟨k, List.mem_range.mpr hkn, by rw [hg]; exact Bool.false_ne_true⟩
          rw [hcf, Bool.false_and] at h
          exact ite_t (wb_one (ws_ret (wd_bl h)))
end
end W3
end
section
set_option Elab.async false
set_option linter.all false
set_option maxRecDepth 100000
set_option maxHeartbeats 1000000
/-! WL: the law's walks: bare, joined. -/
namespace W3
open PySem PySem.Spec PyProof.Rows L2 Pl

theorem two_of {p : Plan} (ok : p.Ok) {r : Nat × Nat × Nat} (h : r ∈ p.rows) : p.two r.1 = some r.2 := by
  have gen : ∀ (rows : List (Nat × Nat × Nat)), (rows.map (·.1)).Pairwise (· < ·) → r ∈ rows → rows.find? (fun q => decide (q.1 = r.1)) = some r := by
    intro rows
    induction rows with
    | nil => intro _ h; cases h
    | cons q rows ih =>
      intro up h
      rw [List.map_cons, List.pairwise_cons] at up
      rw [List.find?_cons]
      rcases List.mem_cons.mp h with e | h
      · rw [← e, decide_eq_true rfl]
      · have := up.1 r.1 (List.mem_map_of_mem h)
        rw [decide_eq_false (by omega)]
        exact ih up.2 h
  unfold Plan.two
  rw [gen _ ok.up h]
  rfl

section
variable {M : Md} {CT CS CB : Addr} {f : Addr} {fd : FuncData}
/-! _law_bare -/
def nLBare : List Str := ["_law_plan", "_law_sign", "_law_one", "_law_other"]
def cLBare (m : Nat) : Ct := fun ds R => ∃ (p : Plan) (x : Nat), ds = [planD p, eN x] ∧ p.Ok ∧ x < p.n ∧ x < m ∧ R (eT (p.bare x))
theorem ok_lbare {m : Nat} (Tb : M.Fn "_law_bare" m 2 (cLBare m)) (Fd : FunD M.K "_law_bare" "_law_bare" (defArgs (top 54)) (defBody (top 54)) (defScope (top 54)) [] [] f fd) : FnOk M.P M.w M.K M.mg M.base CX0 (m + 1) f fd ["_law_plan", "_law_sign"] (spC M.P M.w M.K 2 (cLBare (m + 1))) := by
  refine fn_ok (N := nLBare) nLBare nLBare ["_law_bare"] Fd (C8.fnScope_by (by decide +kernel)) rfl (by decide +kernel) (by decide +kernel) (by decide +kernel) fun q F0 H0 C ds R hl h => ?_
  obtain ⟨p, x, rfl, ok, hx, hm, h⟩ := h
  refine wb_cons (ws_if (wt_cmp (od_ninK C) (wd_var C lk1 mm1 (wd_ix xd_tup (wd_var C lk0 mm0 (wd_int ⟨_, _, _, rfl, rfl, at_1, _, _, rfl, rfl, _, rfl, ?_⟩))))))
  rw [dk_two]
  cases e : p.two x with
  | none =>
    rw [Plan.bare_none e] at h
    refine ite_t ?_
    exact wb_one (ws_ret (wd_tup (wa_cons (wd_var C lk1 mm1 (wa_nil ⟨by have := line_big; show 1 ≤ _; omega, h⟩)))))
  | some t =>
    have hl := two_lt ok e
    rw [Plan.bare_some (two_lts ok) e] at h
    have hb1 := bare_few ok (s := t.1) (by omega)
    have hb2 := bare_few ok (s := t.2) (by omega)
    refine ite_f (wb_nil ?_)
    have ek : dkGet (rD p.rows) (x : Int) = some (e2 t) := by rw [dk_two, e]; rfl
    refine wb_cons (ws_asg (ns := [2, 3]) (wd_ixK C (wd_ix xd_tup (wd_var C lk0 mm0 (wd_int ⟨_, _, _, rfl, rfl, at_1, wd_var C lk1 mm1 ⟨_, _, _, rfl, rfl, ek, ?_⟩⟩)))))
    refine wg_tup C rfl (wgs_cons rfl (wg_name C lk2 mm2 pt2 rfl) (wgs_cons rfl (wg_name C lk3 mm3 pt3 rfl) (wgs_nil ?_))) rfl
    refine wb_one (ws_ret (wd_op od_cat (wd_fn Tb (Nat.le_refl _) C mm0 (wa_cons (wd_var C lk0 mm0 (wa_cons (wd_var C lk2 mm2 (wa_nil ⟨rfl, p, t.1, rfl, ok, by omega, by omega, ?_⟩))))))))
    refine wd_fn Tb (Nat.le_refl _) C mm0 (wa_cons (wd_var C lk0 mm0 (wa_cons (wd_var C lk3 mm3 (wa_nil ⟨rfl, p, t.2, rfl, ok, by omega, by omega, _, _, rfl, rfl, ?_, ?_⟩)))))
    · have := line_big
      simp only [List.length_map]; omega
    · rw [← List.map_append]; exact h
/-! _law_joined -/
def nLJoined : List Str := ["_law_plan", "_law_one", "_law_other", "_law_sign"]
def cLJoined : Ct := fun ds R => ∃ (p : Plan) (a b : Nat), ds = [planD p, eN a, eN b] ∧ p.Ok ∧ a < p.n ∧ b < p.n ∧ R (eO (p.joined a b))
theorem ok_ljoined (Fd : FunD M.K "_law_joined" "_law_joined" (defArgs (top 55)) (defBody (top 55)) (defScope (top 55)) [] [] f fd) : FnOk M.P M.w M.K M.mg M.base CX0 1 f fd ["_law_plan", "_law_one", "_law_other"] (spC M.P M.w M.K 3 cLJoined) := by
  refine fn_ok (N := nLJoined) nLJoined nLJoined [] Fd (C8.fnScope_by (by decide +kernel)) rfl (by decide +kernel) (by decide +kernel) (by decide +kernel) fun q F0 H0 C ds R hl h => ?_
  obtain ⟨p, a, b, rfl, ok, ha, hb, h⟩ := h
  refine wb_cons (ws_for (ns := [3]) C (wi_keysK (wd_ix xd_tup (wd_var C lk0 mm0 (wd_int ⟨_, _, _, rfl, rfl, at_1, _, rfl, fun i ρ' => ∃ s3, ρ' = [.d (planD p), .d (eN a), .d (eN b), s3] ∧ p.joined a b = ((p.rows.drop i).find? fun r => decide (r.2 = (a, b)) && !decide (r.1 ∈ p.shut)).map (·.1), ⟨_, rfl, rfl⟩, ?_, ?_⟩)))))
  · rintro ρ' ⟨s3, rfl, e⟩
    rw [List.length_map, show (rD p.rows).length = p.rows.length by unfold rD; rw [List.length_map], List.drop_length] at e
    rw [e] at h
    exact wb_one (ws_ret (wd_non h))
  · rintro i d ρ1 ed ⟨s3, rfl, e⟩
    have hi : i < p.rows.length := by have := (List.getElem?_eq_some_iff.mp ed).1; rwa [List.length_map, show (rD p.rows).length = p.rows.length by unfold rD; rw [List.length_map]] at this
    unfold rD at ed
    rw [List.getElem?_map, List.getElem?_map, List.getElem?_eq_getElem hi] at ed
    cases ed
    rw [List.drop_eq_getElem_cons hi, List.find?_cons] at e
    have hr := List.getElem_mem hi
    generalize p.rows[i] = r at e hr ⊢
    have ek : dkGet (rD p.rows) (r.1 : Int) = some (e2 r.2) := by rw [dk_two, two_of ok hr]; rfl
    refine wg_name C lk3 mm3 pt3 ?_
    refine wb_one (ws_if (wt_eq (decide (r.2 = (a, b)) && !decide (r.1 ∈ p.shut)) ?_ ?_))
    · refine wt_w (ww_and (wt_cmp (od_eq C) (wd_ixK C (wd_ix xd_tup (wd_var C lk0 mm0 (wd_int ⟨_, _, _, rfl, rfl, at_1, wd_var C lk3 mm3 ⟨_, _, _, rfl, rfl, ek, wd_tup (wa_cons (wd_var C lk1 mm1 (wa_cons (wd_var C lk2 mm2 (wa_nil ⟨by have := line_big; show 2 ≤ _; omega, _, _, isK_T [r.2.1, r.2.2], isK_T [a, b], _, rfl, ?_⟩)))))⟩⟩))))))
      rw [dec_pair r.2]
      refine ite_dec (fun h1 => ?_) (fun h1 => by rw [decide_eq_false h1]; rfl)
      refine ww_and1 (wt_cmp od_ninT (wd_var C lk3 mm3 (wd_ix xd_tup (wd_var C lk0 mm0 (wd_int ⟨_, _, _, rfl, rfl, at_2, _, _, rfl, map_iN _, _, rfl, ?_⟩)))))
      rw [decide_eq_true h1, Bool.true_and, mem_iN]
    · refine ite_b (fun et => ?_) (fun et => ?_)
      · rw [et] at e
        rw [e] at h
        exact wb_one (ws_ret (wd_var C lk3 mm3 h))
      · rw [et] at e
        exact wb_nil ⟨_, rfl, e⟩
end
end W3
end
section
set_option Elab.async false
set_option linter.all false
set_option maxRecDepth 100000
set_option maxHeartbeats 1000000
/-! WM: the law's walks: wrong_at, held. -/
namespace W3
open PySem PySem.Spec PyProof.Rows L2 Pl
section
variable {M : Md} {CT CS CB : Addr} {f : Addr} {fd : FuncData}
/-! _law_wrong_at -/
def nLWrong : List Str := ["_law_plan", "_law_text_here", "_law_run", "_law_index", "_law_sign", "_law_one"]
def cLWrong : Ct := fun ds R => ∃ (p : Plan) (xs : List Nat), ds = [planD p, eT xs] ∧ p.Ok ∧ R (eO (p.wrongAt xs))
theorem ok_lwrong (fx : Fx M CT CS CB) (Tb : M.Fn "_law_bare" 4 2 (cLBare 4)) (Fd : FunD M.K "_law_wrong_at" "_law_wrong_at" (defArgs (top 56)) (defBody (top 56)) (defScope (top 56)) [] [] f fd) : FnOk M.P M.w M.K M.mg M.base CX0 5 f fd ["_law_plan", "_law_text_here"] (spC M.P M.w M.K 2 cLWrong) := by
  refine fn_ok (N := nLWrong) nLWrong nLWrong ["enumerate", "isinstance", "int", "bool", "len", "_law_bare"] Fd (C8.fnScope_by (by decide +kernel)) rfl (by decide +kernel) (by decide +kernel) (by decide +kernel) fun q F0 H0 C ds R hl h => ?_
  obtain ⟨p, xs, rfl, ok, h⟩ := h
  have hn4 : p.n ≤ 4 := ok.few
  refine wb_cons (ws_set C lk2 mm2 (wv_d (wd_int ⟨_, pt2, ?_⟩)))
  refine wb_cons (ws_for (ns := [3, 4]) C (wi_enum C mm0 fx.n_enumerate (wd_var C lk1 mm1 ⟨_, rfl, fun i ρ' => ∃ (r : Nat) (s3 s4 s5 : Sl), ρ' = [.d (planD p), .d (eT xs), .d (eN r), s3, s4, s5] ∧ p.wrongGo i r (xs.drop i) = p.wrongAt xs, ⟨0, _, _, _, rfl, rfl⟩, ?_, ?_⟩)))
  · rintro ρ' ⟨r, s3, s4, s5, rfl, h1⟩
    rw [enumD_length, List.length_map, List.drop_length] at h1
    have h1 : none = p.wrongAt xs := h1
    rw [← h1] at h
    exact wb_one (ws_ret (wd_non h))
  · rintro i d ρ1 ed ⟨r, s3, s4, s5, rfl, h1⟩
    have hi : i < xs.length := by have := (List.getElem?_eq_some_iff.mp ed).1; rwa [enumD_length, List.length_map] at this
    rw [enumD_get (d := eN xs[i]) (by rw [List.getElem?_map, List.getElem?_eq_getElem hi]; rfl)] at ed
    cases ed
    rw [drop_at hi] at h1
    dsimp only
    generalize xs[i] = x at h1 ⊢
    unfold Plan.wrongGo at h1
    refine wg_tup C rfl (wgs_cons rfl (wg_name C lk3 mm3 pt3 rfl) (wgs_cons rfl (wg_name C lk4 mm4 pt4 rfl) (wgs_nil ?_))) rfl
    refine wb_cons (ws_if (wt_eq (!decide (x < p.n)) ?_ ?_))
    · refine wt_w (ww_or (wt_not (wt_val (wd_isi C mm1 fx.n_isinstance mm2 fx.n_int b_int (wd_var C lk4 mm4 ⟨_, true, rfl, by decide +kernel, _, rfl, ite_f ?_⟩)))))
      refine ww_or (wt_val (wd_isi C mm1 fx.n_isinstance mm3 fx.n_bool b_bool (wd_var C lk4 mm4 ⟨_, false, rfl, by decide +kernel, _, rfl, ite_f ?_⟩)))
      refine ww_or1 (wt_not (wt_chain od_le od_lt (wd_int (wd_var C lk4 mm4 ⟨_, _, rfl, rfl, _, rfl, ite_dec (fun h1 => ?_) (fun h1 => absurd (Int.natCast_nonneg x) h1)⟩))))
      refine wd_callB cd_lenT C mm4 fx.n_len b_len (wa_cons (wd_ix xd_tup (wd_var C lk0 mm0 (wd_int ⟨_, _, _, rfl, rfl, at_0, wa_nil ⟨_, rfl, _, _, rfl, rfl, _, rfl, ?_⟩⟩))))
      rw [List.length_map]
      congr 1
      rw [Bool.eq_iff_iff, decide_eq_true_eq, decide_eq_true_eq]
      show _ ↔ x < p.cls.length
      omega
    by_cases hx : x < p.n
    · rw [if_pos hx] at h1
      rw [decide_eq_true hx]
      refine ite_f (wb_nil ?_)
      have h4 : x < 4 := by omega
      have hb := bare_row ok hx
      refine wb_one (ws_for (ns := [5]) C (wi_tup (wd_fn Tb (Nat.le_refl _) C mm5 (wa_cons (wd_var C lk0 mm0 (wa_cons (wd_var C lk4 mm4 (wa_nil ⟨rfl, p, x, rfl, ok, hx, h4, _, rfl, fun k ρ' => ∃ (r' : Nat) (s5 : Sl), ρ' = [.d (planD p), .d (eT xs), .d (eN r'), .d (eN i), .d (eN x), s5] ∧ p.runGo r' ((p.bare x).drop k) = p.runGo r (p.bare x), ⟨r, _, rfl, rfl⟩, ?_, ?_⟩))))))))
      · rintro ρ' ⟨r', s5', rfl, h2⟩
        rw [List.length_map, List.drop_length] at h2
        have h2 : some r' = p.runGo r (p.bare x) := h2
        rw [← h2] at h1
        exact ⟨r', _, _, _, rfl, h1⟩
      · rintro k d ρ1 ed ⟨r', s5', rfl, h2⟩
        have hk : k < (p.bare x).length := by have := (List.getElem?_eq_some_iff.mp ed).1; rwa [List.length_map] at this
        rw [List.getElem?_map, List.getElem?_eq_getElem hk] at ed
        cases ed
        have hm : (p.bare x)[k] < p.n := hb _ (List.getElem_mem hk)
        rw [drop_at hk] at h2
        dsimp only
        generalize (p.bare x)[k] = o at hm h2 ⊢
        rw [runGo_cons] at h2
        refine wg_name C lk5 mm5 pt5 ?_
        refine wb_cons (ws_set C lk2 mm2 (wv_d (wd_eq (eN (if 0 < p.c o then r' + 1 else 0)) ?_ ⟨_, pt2, ?_⟩)))
        · refine wd_ifexp (wt_cmp od_gt (wd_ix xd_tup (wd_ix xd_tup (wd_var C lk0 mm0 (wd_int ⟨_, _, _, rfl, rfl, at_0, wd_var C lk5 mm5 ⟨_, _, _, rfl, rfl, at_c hm, wd_int ⟨_, _, rfl, rfl, _, rfl, ?_⟩⟩⟩)))))
          refine ite_dec (fun hc => ?_) (fun hc => ?_)
          · rw [if_pos (by omega)]
            exact wd_op od_add (wd_var C lk2 mm2 (wd_int ⟨_, _, rfl, rfl, rfl⟩))
          · rw [if_neg (by omega)]
            exact wd_int rfl
        · generalize (if 0 < p.c o then r' + 1 else 0) = r2 at h2 ⊢
          refine wb_one (ws_if (wt_cmp od_gt (wd_var C lk2 mm2 (wd_int ⟨_, _, rfl, rfl, _, rfl, ?_⟩))))
          refine ite_dec (fun hc => ?_) (fun hc => wb_nil ?_)
          · rw [if_pos (by omega)] at h2
            rw [← h2] at h1
            have h1 : some i = p.wrongAt xs := h1
            rw [← h1] at h
            exact wb_one (ws_ret (wd_var C lk3 mm3 h))
          · rw [if_neg (by omega)] at h2
            exact ⟨r2, _, rfl, h2⟩
    · rw [if_neg hx] at h1
      rw [decide_eq_false hx]
      refine ite_t ?_
      have h1 : some i = p.wrongAt xs := h1
      rw [← h1] at h
      exact wb_one (ws_ret (wd_var C lk3 mm3 h))
end
end W3
end
section
set_option Elab.async false
set_option linter.all false
set_option maxRecDepth 100000
set_option maxHeartbeats 1000000
/-! WN: the law's walks: held. -/
namespace W3
open PySem PySem.Spec PyProof.Rows L2 Pl
section
variable {M : Md} {CT CS CB : Addr} {f : Addr} {fd : FuncData}
/-! _law_held -/
theorem all_free {p : Plan} {ks : List Nat} {m : Nat} (h : ks.length ≤ 1) : (ks.map fun k => decide (p.c k < p.c m)).all id = p.isFree ks m := by
  match ks, h with
  | [], _ => rfl
  | [k], _ => simp [Plan.isFree]
def nLHeld : List Str := ["_law_plan", "_law_way", "_law_standing", "_law_found", "_law_mark", "_law_late", "_law_is_free", "_law_one"]
def cLHeld : Ct := fun ds R => ∃ (p : Plan) (j : Bool) (s : Stg), ds = [planD p, wayD j, eS s] ∧ p.Ok ∧ SOk p s ∧ R (eT (p.held j s))
theorem ok_lheld (fx : Fx M CT CS CB) (Tj : M.Fn "_law_joined" 1 3 cLJoined) (Fd : FunD M.K "_law_held" "_law_held" (defArgs (top 60)) (defBody (top 60)) (defScope (top 60)) [] [] f fd) : FnOk M.P M.w M.K M.mg M.base CX0 2 f fd ["_law_plan", "_law_way", "_law_standing"] (spC M.P M.w M.K 3 cLHeld) := by
  refine fn_ok (N := nLHeld) ["_law_plan", "_law_way", "_law_standing", "_law_found", "_law_mark", "_law_late", "_law_is_free"] ["_law_plan", "_law_way", "_law_standing", "_law_found", "_law_mark", "_law_late", "_law_is_free"] ["_law_joined", "all", "tuple"] Fd (C8.fnScope_by (by decide +kernel)) rfl (by decide +kernel) (by decide +kernel) (by decide +kernel) fun q F0 H0 C ds R hl h => ?_
  obtain ⟨p, j, s, rfl, ok, hs, h⟩ := h
  refine wb_cons (ws_if (wt_cmp od_isN (wd_ix xd_tup (wd_var C lk2 mm2 (wd_int ⟨_, _, _, rfl, rfl, at_0, wd_non ⟨rfl, _, rfl, ?_⟩⟩)))))
  rw [eO_isN]
  obtain ⟨o, marks⟩ := s
  cases o with
  | none => exact ite_t (wb_one (ws_ret (wd_ix xd_tup (wd_var C lk2 mm2 (wd_int ⟨_, _, _, rfl, rfl, at_1, h⟩)))))
  | some b =>
    refine ite_f (wb_nil ?_)
    have hmk : ∀ x ∈ marks, x < p.n := hs.m
    have hb : b < p.n := hs.b b rfl
    have hml : marks.length ≤ 2 := hs.l
    refine wb_cons (ws_set C lk3 mm3 (wv_f (wf_lst (wa_cons (wd_ix xd_tup (wd_var C lk2 mm2 (wd_int ⟨_, _, _, rfl, rfl, at_0, wa_nil ⟨by have := line_big; show 1 ≤ _; omega, _, pt3, ?_⟩⟩)))))))
    refine wb_cons (ws_for (ns := [4]) C (wi_tup (wd_ix xd_tup (wd_var C lk2 mm2 (wd_int ⟨_, _, _, rfl, rfl, at_1, _, rfl, fun i ρ' => ∃ s4 s5 s6 s7 : Sl, ρ' = [.d (planD p), .d (wayD j), .d (eS (some b, marks)), .own ((((marks.take i).foldl (p.hstep j) (b, [])).1 :: ((marks.take i).foldl (p.hstep j) (b, [])).2).map eN), s4, s5, s6, s7], ⟨_, _, _, _, rfl⟩, ?_, ?_⟩)))))
    · rintro ρ' ⟨s4, s5, s6, s7, rfl⟩
      rw [List.length_map, List.take_length]
      have hh : R (eT (((marks.foldl (p.hstep j) (b, [])).1) :: (marks.foldl (p.hstep j) (b, [])).2)) := h
      refine wb_frzL pt3 pt3 ?_
      exact wb_one (ws_ret (wd_callTy cd_tuple C mm2 fx.n_tuple b_tuple (wa_cons (wd_var C lk3 mm3 (wa_nil ⟨_, .inl rfl, hh⟩)))))
    · rintro i d ρ1 ed ⟨s4, s5, s6, s7, rfl⟩
      have hi : i < marks.length := by have := (List.getElem?_eq_some_iff.mp ed).1; rwa [List.length_map] at this
      rw [List.getElem?_map, List.getElem?_eq_getElem hi] at ed
      cases ed
      have hm : marks[i] < p.n := hmk _ (List.getElem_mem hi)
      have et : (marks.take (i + 1)).foldl (p.hstep j) (b, []) = p.hstep j ((marks.take i).foldl (p.hstep j) (b, [])) marks[i] := by
        rw [List.take_succ, List.getElem?_eq_getElem hi, Option.toList_some, List.foldl_append]; rfl
      have hk : HOk p ((marks.take i).foldl (p.hstep j) (b, [])) := hfold_ok ok _ ⟨hb, (fun _ z => nomatch z)⟩ fun x hx => hmk x (List.mem_of_mem_take hx)
      have hkl := hfold_len p j (marks.take i) (b, [])
      rw [List.length_take] at hkl
      dsimp only
      rw [et]
      generalize (marks.take i).foldl (p.hstep j) (b, []) = q at hk hkl ⊢
      have hq1 : q.2.length ≤ 1 := by simp only [List.length_nil] at hkl; omega
      refine wg_name C lk4 mm4 pt4 ?_
      -- late
      refine wb_cons (ws_set C lk5 mm5 (wv_d (wd_eq (eO (if j = true then p.joined q.1 marks[i] else none)) (wd_thawL pt3 pt3 ?_) ⟨_, pt5, ?_⟩)))
      · refine wd_ifexp (wt_cmp od_eqS (wd_var C lk1 mm1 (wd_str ⟨_, _, rfl, rfl, _, rfl, ?_⟩)))
        rw [way_joined]
        refine ite_b (fun e => ?_) (fun e => ?_)
        · rw [if_pos e]
          refine wd_fn Tj (Nat.le_refl _) C mm0 (wa_cons (wd_var C lk0 mm0 (wa_cons (wd_ix xd_lst (wd_var C lk3 mm3 (wd_int ⟨_, _, _, rfl, rfl, at_0, wa_cons (wd_var C lk4 mm4 (wa_nil ⟨rfl, p, q.1, marks[i], rfl, ok, hk.b, hm, ?_, rfl⟩))⟩))))))
          cases p.joined q.1 marks[i] with
          | none => exact .non
          | some l => exact .int
        · rw [if_neg (by rw [e]; exact Bool.false_ne_true)]
          exact wd_non ⟨.non, rfl⟩
      -- is_free
      refine wb_cons (ws_set C lk6 mm6 (wv_d (wd_eq (.bl (p.isFree q.2 marks[i])) (wd_thawL pt3 pt3 ?_) ⟨_, pt6, ?_⟩)))
      · refine wd_callB (cd_all C) C mm1 fx.n_all b_all (wa_cons (wd_fresh (wf_eq ((q.2.map fun k => decide (p.c k < p.c marks[i])).map D.bl) ?_ (wa_nil ⟨_, rfl, .bl, ?_⟩))))
        · refine wf_c (own := [("_law_one", 7)]) (ns := [7]) C (blkOk_by (show blkC nLHeld (defScope (top 60)) _ _ = true by decide +kernel)) (by decide) (wi_lst (wd_sliceL (POl := (· = some (1 : Int))) (POh := (· = none)) (wd_var C lk3 mm3 ⟨_, rfl, ?_⟩) (wo_some (wd_int ⟨_, rfl, rfl⟩)) (wo_none rfl)))
          rintro _ _ rfl rfl
          refine ⟨_, rfl, ?_⟩
          rw [show cutD ((q.1 :: q.2).map eN) (some (1 : Int)) none = q.2.map eN from cutD_drop (xs := q.1 :: q.2) (k := 1)]
          refine lc_map q.2 eN (fun k => .bl (decide (p.c k < p.c marks[i]))) (le_line (by omega)) (by rw [List.map_map]; rfl) fun x hx q' => ?_
          refine wg_in C ["_law_one", "_law_plan", "_law_mark"] ["_law_one"] [] rfl rfl rfl fun C' => wg_name C' lk7 mm0 pt7 ?_
          intro q'
          refine wd_in C ["_law_one", "_law_plan", "_law_mark"] ["_law_one"] [] rfl rfl rfl fun C' => ?_
          refine wd_cmp od_lt (wd_ix xd_tup (wd_ix xd_tup (wd_var C' lk0 mm1 (wd_int ⟨_, _, _, rfl, rfl, at_0, wd_var C' lk7 mm0 ⟨_, _, _, rfl, rfl, at_c (hk.m x hx), wd_ix xd_tup (wd_ix xd_tup (wd_var C' lk0 mm1 (wd_int ⟨_, _, _, rfl, rfl, at_0, wd_var C' lk4 mm2 ⟨_, _, _, rfl, rfl, at_c hm, _, _, rfl, rfl, ?_⟩⟩)))⟩⟩))))
          congr 1
          rw [Bool.eq_iff_iff, decide_eq_true_eq, decide_eq_true_eq]
          omega
        · rw [all_free hq1]
      -- the step
      refine wb_one (ws_if (wt_eq ((if j = true then p.joined q.1 marks[i] else none).isSome && p.isFree q.2 marks[i]) ?_ ?_))
      · refine wt_w (ww_and (wt_cmp od_notN (wd_var C lk5 mm5 (wd_non ⟨rfl, _, rfl, ?_⟩))))
        rw [eO_isN]
        cases (if j = true then p.joined q.1 marks[i] else none) with
        | none => exact ite_f rfl
        | some l => exact ite_t (ww_and1 (wt_val (wd_var C lk6 mm6 ⟨_, rfl, rfl⟩)))
      · unfold Plan.hstep
        cases (if j = true then p.joined q.1 marks[i] else none) with
        | none =>
          refine ite_f ?_
          exact wb_one (ws_append C lk3 mm3 (wd_var C lk4 mm4 ⟨by have := line_big; rw [List.length_map]; simp only [List.length_cons]; omega, _, pt3, _, _, _, _, by show _ = [_, _, _, Sl.own ((q.1 :: (q.2 ++ [marks[i]])).map eN), _, _, _, _]; rw [← List.cons_append, List.map_append]; rfl⟩))
        | some l =>
          cases p.isFree q.2 marks[i] with
          | true => exact ite_t (wb_one (ws_putL C lk3 mm3 (wd_var C lk5 mm5 (wd_int ⟨0, rfl, by simp, _, pt3, _, _, _, _, rfl⟩))))
          | false =>
            refine ite_f ?_
            exact wb_one (ws_append C lk3 mm3 (wd_var C lk4 mm4 ⟨by have := line_big; rw [List.length_map]; simp only [List.length_cons]; omega, _, pt3, _, _, _, _, by show _ = [_, _, _, Sl.own ((q.1 :: (q.2 ++ [marks[i]])).map eN), _, _, _, _]; rw [← List.cons_append, List.map_append]; rfl⟩))
end
end W3
end
section
set_option Elab.async false
set_option linter.all false
set_option maxRecDepth 100000
set_option maxHeartbeats 1000000
/-! WO: the law's walks: read. -/
namespace W3
open PySem PySem.Spec PyProof.Rows L2 Pl
theorem wb_via {X : Cx} {F0 H0 : Hp} {ρ : Rho} {st : Stmt} {sts : List Stmt} {nx : Rho → Prop} {rt : D → Prop} (ρ1 : Rho) (h : WS X F0 H0 ρ st (fun ρ' => ρ' = ρ1) rt) (h2 : WB X F0 H0 ρ1 sts nx rt) : WB X F0 H0 ρ (st :: sts) nx rt :=
  wb_cons fun σ F H E0 E k1 k2 => h σ F H E0 E (fun ρ' σ' F' H' p E' s => k1 ρ' σ' F' H' (p ▸ h2) E' s) k2
section
variable {M : Md} {CT CS CB : Addr} {f : Addr} {fd : FuncData}
/-! _law_read -/
def nLRead : List Str := ["_law_plan", "_law_way", "_law_standing", "_law_sign", "_law_gone", "_law_one", "_law_base", "_law_marks", "_law_spot", "_law_held_now", "_law_late", "_law_mark"]
def lLRead : List Str := ["_law_plan", "_law_way", "_law_standing", "_law_sign", "_law_gone", "_law_one", "_law_base", "_law_marks", "_law_spot", "_law_held_now", "_law_late"]
def cLRead : Ct := fun ds R => ∃ (p : Plan) (j : Bool) (s : Stg) (x : Nat), ds = [planD p, wayD j, eS s, eN x] ∧ p.Ok ∧ SOk p s ∧ x < p.n ∧ R (eR (p.readSign j s x))
theorem ok_lread (fx : Fx M CT CS CB) (Tb : M.Fn "_law_bare" 4 2 (cLBare 4)) (Th : M.Fn "_law_held" 2 3 cLHeld) (Tj : M.Fn "_law_joined" 1 3 cLJoined) (Fd : FunD M.K "_law_read" "_law_read" (defArgs (top 61)) (defBody (top 61)) (defScope (top 61)) [] [] f fd) : FnOk M.P M.w M.K M.mg M.base CX0 5 f fd ["_law_plan", "_law_way", "_law_standing", "_law_sign"] (spC M.P M.w M.K 4 cLRead) := by
  refine fn_ok (N := nLRead) lLRead lLRead ["_law_bare", "len", "_law_held", "_law_joined"] Fd (C8.fnScope_by (by decide +kernel)) rfl (by decide +kernel) (by decide +kernel) (by decide +kernel) fun q F0 H0 C ds R hl h => ?_
  obtain ⟨p, j, s, x, rfl, ok, hs, hx, h⟩ := h
  have h4 : x < 4 := by have := ok.few; have : x < p.cls.length := hx; omega
  have hb := bare_row ok hx
  have hb8 := bare_few ok hx
  refine wb_cons (ws_set C lk4 mm4 (wv_d (wd_tup (wa_nil ⟨Nat.zero_le _, _, pt4, ?_⟩))))
  refine wb_cons (ws_for (ns := [5]) C (wi_tup (wd_fn Tb (Nat.le_refl _) C mm0 (wa_cons (wd_var C lk0 mm0 (wa_cons (wd_var C lk3 mm3 (wa_nil ⟨rfl, p, x, rfl, ok, hx, h4, _, rfl, fun i ρ' => ∃ (si : Stg) (fi : List Nat) (s5 s6 s7 s8 s9 s10 s11 : Sl), ρ' = [.d (planD p), .d (wayD j), .d (eS si), .d (eN x), .d (eT fi), s5, s6, s7, s8, s9, s10, s11] ∧ SOk p si ∧ fi.length ≤ 3 * i ∧ p.readGo j si fi ((p.bare x).drop i) = p.readSign j s x, ⟨s, [], _, _, _, _, _, _, _, rfl, hs, Nat.zero_le _, rfl⟩, ?_, ?_⟩))))))))
  · rintro ρ' ⟨si, fi, s5, s6, s7, s8, s9, s10, s11, rfl, h1, h2, h3⟩
    rw [List.length_map, List.drop_length] at h3
    have h3 : some (si, fi) = p.readSign j s x := h3
    rw [← h3] at h
    exact wb_one (ws_ret (wd_tup (wa_cons (wd_var C lk2 mm2 (wa_cons (wd_var C lk4 mm4 (wa_nil ⟨ln2, h⟩)))))))
  · rintro i d ρ1 ed ⟨si, fi, s5, s6, s7, s8, s9, s10, s11, rfl, h1, h2, h3⟩
    have hi : i < (p.bare x).length := by have := (List.getElem?_eq_some_iff.mp ed).1; rwa [List.length_map] at this
    rw [List.getElem?_map, List.getElem?_eq_getElem hi] at ed
    cases ed
    have hm : (p.bare x)[i] < p.n := hb _ (List.getElem_mem hi)
    rw [drop_at hi] at h3
    dsimp only
    generalize (p.bare x)[i] = o at hm h3 ⊢
    unfold Plan.readGo at h3
    have h1l : si.2.length ≤ 2 := h1.l
    refine wg_name C lk5 mm5 pt5 ?_
    refine wb_cons (ws_asg (wd_var C lk2 mm2 (wg_tup C rfl (wgs_cons rfl (wg_name C lk6 mm6 pt6 rfl) (wgs_cons rfl (wg_name C lk7 mm7 pt7 rfl) (wgs_nil ?_))) rfl)))
    refine wb_cons (ws_if (wt_eq (decide (0 < p.c o) && decide (si.2.length = 2)) ?_ ?_))
    · refine wt_w (ww_and (wt_cmp od_gt (wd_ix xd_tup (wd_ix xd_tup (wd_var C lk0 mm0 (wd_int ⟨_, _, _, rfl, rfl, at_0, wd_var C lk5 mm5 ⟨_, _, _, rfl, rfl, at_c hm, wd_int ⟨_, _, rfl, rfl, _, rfl, ?_⟩⟩⟩))))))
      refine ite_dec (fun hc => ?_) (fun hc => by rw [decide_eq_false (by omega : ¬ 0 < p.c o)]; rfl)
      refine ww_and1 (wt_cmp od_gt (wd_callB cd_lenT C mm1 fx.n_len b_len (wa_cons (wd_var C lk7 mm7 (wa_nil ⟨_, rfl, wd_int ⟨_, _, rfl, rfl, _, rfl, ?_⟩⟩)))))
      rw [decide_eq_true (by omega : 0 < p.c o), Bool.true_and, List.length_map, Bool.eq_iff_iff, decide_eq_true_eq, decide_eq_true_eq]
      omega
    refine ite_b (fun ec => ?_) (fun ec => wb_nil ?_)
    · rw [Bool.and_eq_true, decide_eq_true_eq, decide_eq_true_eq] at ec
      have eb : p.readBare j si o = none := by unfold Plan.readBare; rw [if_pos ec.1, if_pos ec.2]
      rw [eb] at h3
      have h3 : none = p.readSign j s x := h3
      rw [← h3] at h
      exact wb_one (ws_ret (wd_non h))
    refine wb_one (ws_if (wt_cmp od_gt (wd_ix xd_tup (wd_ix xd_tup (wd_var C lk0 mm0 (wd_int ⟨_, _, _, rfl, rfl, at_0, wd_var C lk5 mm5 ⟨_, _, _, rfl, rfl, at_c hm, wd_int ⟨_, _, rfl, rfl, _, rfl, ?_⟩⟩⟩))))))
    refine ite_dec (fun hc => ?_) (fun hc => ?_)
    · have hc' : 0 < p.c o := by omega
      rw [decide_eq_true hc', Bool.true_and] at ec
      have ec : ¬ si.2.length = 2 := of_decide_eq_false ec
      have eb : p.readBare j si o = some ((si.1, p.withMark si.2 o), []) := by unfold Plan.readBare; rw [if_pos hc', if_neg ec]
      rw [eb] at h3
      have h3 : p.readGo j (si.1, p.withMark si.2 o) (fi ++ []) ((p.bare x).drop (i + 1)) = p.readSign j s x := h3
      rw [List.append_nil] at h3
      obtain ⟨g1, g2, g3⟩ := readBare_ok ok h1 hm eb
      refine wb_cons (ws_set C lk8 mm8 (wv_d (wd_callB cd_lenL C mm1 fx.n_len b_len (wa_cons (wd_fresh (wf_eq ((si.2.filter fun x => decide (p.c x ≤ p.c o)).map eN) ?_ (wa_nil ⟨_, rfl, _, pt8, ?_⟩)))))))
      · refine wf_c (own := [("_law_mark", 11)]) (ns := [11]) C (blkOk_by (show blkC nLRead (defScope (top 61)) _ _ = true by decide +kernel)) (by decide) (wi_tup (wd_var C lk7 mm7 ⟨_, rfl, ?_⟩))
        refine lc_filt si.2 eN (fun x => decide (p.c x ≤ p.c o)) eN (le_line (by omega)) rfl fun y hy q => ?_
        refine wg_in C ["_law_mark", "_law_plan", "_law_one"] ["_law_mark"] [] rfl rfl rfl fun C' => wg_name C' lk11 mm0 pt11 ?_
        intro q
        refine wt_in C ["_law_mark", "_law_plan", "_law_one"] ["_law_mark"] [] rfl rfl rfl fun C' => ?_
        refine wt_cmp od_le (wd_ix xd_tup (wd_ix xd_tup (wd_var C' lk0 mm1 (wd_int ⟨_, _, _, rfl, rfl, at_0, wd_var C' lk11 mm0 ⟨_, _, _, rfl, rfl, at_c (h1.m y hy), wd_ix xd_tup (wd_ix xd_tup (wd_var C' lk0 mm1 (wd_int ⟨_, _, _, rfl, rfl, at_0, wd_var C' lk5 mm2 ⟨_, _, _, rfl, rfl, at_c hm, _, _, rfl, rfl, _, rfl, ?_⟩⟩)))⟩⟩))))
        refine ⟨by rw [Bool.eq_iff_iff, decide_eq_true_eq, decide_eq_true_eq]; omega, fun _ q => wd_in C ["_law_mark", "_law_plan", "_law_one"] ["_law_mark"] [] rfl rfl rfl fun C' => wd_var C' lk11 mm0 rfl⟩
      · rw [List.length_map]
        have hw : p.withMark si.2 o = si.2.take (si.2.filter fun x => decide (p.c x ≤ p.c o)).length ++ o :: si.2.drop (si.2.filter fun x => decide (p.c x ≤ p.c o)).length := rfl
        generalize (si.2.filter fun x => decide (p.c x ≤ p.c o)).length = k at hw ⊢
        refine wb_one (ws_set C lk2 mm2 (wv_d (wd_tup (wa_cons (wd_var C lk6 mm6 (wa_cons (wd_eq (eT (p.withMark si.2 o)) ?_ (wa_nil ⟨ln2, _, pt2, (si.1, p.withMark si.2 o), fi, _, _, _, _, _, _, _, rfl, g1, by omega, h3⟩))))))))
        refine wd_op od_cat (wd_op od_cat (wd_sliceT (POl := (· = none)) (POh := (· = some (k : Int))) (wd_var C lk7 mm7 ⟨_, rfl, ?_⟩) (wo_none rfl) (wo_some (wd_var C lk8 mm8 ⟨_, rfl, rfl⟩))))
        rintro _ _ rfl rfl
        refine wd_tup (wa_cons (wd_var C lk5 mm5 (wa_nil ⟨by have := line_big; show 1 ≤ _; omega, _, _, rfl, rfl, ?_, wd_sliceT (POl := (· = some (k : Int))) (POh := (· = none)) (wd_var C lk7 mm7 ⟨_, rfl, ?_⟩) (wo_some (wd_var C lk8 mm8 ⟨_, rfl, rfl⟩)) (wo_none rfl)⟩)))
        · rw [cutD_take]
          refine le_line ?_
          simp only [List.length_cons, List.length_map, List.length_take, List.length_nil]; omega
        · rintro _ _ rfl rfl
          rw [cutD_take, cutD_drop]
          refine ⟨_, _, rfl, rfl, le_line ?_, ?_⟩
          · simp only [List.length_append, List.length_cons, List.length_map, List.length_take, List.length_drop, List.length_nil]; omega
          · rw [hw]
            show _ = D.tup _
            rw [List.map_append, List.append_assoc]; rfl
    · have hc' : ¬ 0 < p.c o := by omega
      have eb : p.readBare j si o = (match (if j && decide ((p.held j si).length = 1) && si.1.isSome then p.joined ((p.held j si).headD 0) o else none) with | some l => some ((some l, []), []) | none => some ((some o, []), p.held j si)) := by unfold Plan.readBare; rw [if_neg hc'] <;> rfl
      have hh := held_ok (j := j) ok h1
      have gk := fun r (e : p.readBare j si o = some r) => readBare_ok (r := r) ok h1 hm e
      rw [eb] at h3 gk
      refine wb_cons (ws_set C lk9 mm9 (wv_d (wd_fn Th (by omega) C mm2 (wa_cons (wd_var C lk0 mm0 (wa_cons (wd_var C lk1 mm1 (wa_cons (wd_var C lk2 mm2 (wa_nil ⟨rfl, p, j, si, rfl, ok, h1, _, pt9, ?_⟩))))))))))
      generalize p.held j si = hd at h3 hh gk ⊢
      refine wb_cons (ws_set C lk10 mm10 (wv_d (wd_non ⟨_, pt10, ?_⟩)))
      refine wb_via [.d (planD p), .d (wayD j), .d (eS si), .d (eN x), .d (eT fi), .d (eN o), .d (eO si.1), .d (eT si.2), s8, .d (eT hd), .d (eO (if j && decide (hd.length = 1) && si.1.isSome then p.joined (hd.headD 0) o else none)), s11] (ws_if (wt_eq (j && decide (hd.length = 1) && si.1.isSome) ?_ ?_)) ?_
      · refine wt_w (ww_and (wt_cmp od_eqS (wd_var C lk1 mm1 (wd_str ⟨_, _, rfl, rfl, _, rfl, ?_⟩))))
        rw [way_joined]
        refine ite_b (fun ej => ?_) (fun ej => by rw [ej]; rfl)
        rw [ej, Bool.true_and]
        refine ww_and (wt_cmp od_notN (wd_var C lk6 mm6 (wd_non ⟨rfl, _, rfl, ?_⟩)))
        rw [eO_isN]
        cases si.1 with
        | none => exact ite_f (by rw [Option.isSome_none, Bool.and_false])
        | some b =>
          refine ite_t ?_
          refine ww_and1 (wt_cmp (od_eq C) (wd_callB cd_lenT C mm1 fx.n_len b_len (wa_cons (wd_var C lk9 mm9 (wa_nil ⟨_, rfl, wd_int ⟨_, _, isK_I _, isK_I 1, _, rfl, ?_⟩⟩)))))
          rw [len_k hd 1 1 rfl, Option.isSome_some, Bool.and_true]
      · refine ite_b (fun ec2 => ?_) (fun ec2 => wb_nil ?_)
        · rw [if_pos ec2]
          have h1' : hd.length = 1 := by simp only [Bool.and_eq_true, decide_eq_true_eq] at ec2; exact ec2.1.2
          obtain ⟨a, rfl⟩ : ∃ a, hd = [a] := by
            match hd, h1' with
            | [a], _ => exact ⟨a, rfl⟩
          have ha : a < p.n := hh.2 a List.mem_cons_self
          exact wb_one (ws_set C lk10 mm10 (wv_d (wd_fn Tj (by omega) C mm3 (wa_cons (wd_var C lk0 mm0 (wa_cons (wd_ix xd_tup (wd_var C lk9 mm9 (wd_int ⟨_, _, _, rfl, rfl, at_0, wa_cons (wd_var C lk5 mm5 (wa_nil ⟨rfl, p, a, o, rfl, ok, ha, hm, _, pt10, rfl⟩))⟩)))))))))
        · rw [if_neg (by rw [ec2]; exact Bool.false_ne_true)]
          rfl
      · generalize (if j && decide (hd.length = 1) && si.1.isSome then p.joined (hd.headD 0) o else none) = late at h3 gk ⊢
        have hdl := hh.1
        cases late with
        | none =>
          have h3 : p.readGo j (some o, []) (fi ++ hd) ((p.bare x).drop (i + 1)) = p.readSign j s x := h3
          obtain ⟨g1, g2, g3⟩ := gk _ rfl
          refine wb_cons (ws_set C lk4 mm4 (wv_d (wd_op od_cat (wd_var C lk4 mm4 (wd_ifexp (wt_cmp od_isN (wd_var C lk10 mm10 (wd_non ⟨rfl, _, rfl, ite_t (wd_var C lk9 mm9 ⟨_, _, rfl, rfl, le_line (by simp only [List.length_map]; omega), _, pt4, ?_⟩)⟩))))))))
          exact wb_one (ws_set C lk2 mm2 (wv_d (wd_tup (wa_cons (wd_ifexp (wt_cmp od_isN (wd_var C lk10 mm10 (wd_non ⟨rfl, _, rfl, ite_t (wd_var C lk5 mm5 (wa_cons (wd_tup (wa_nil ⟨Nat.zero_le _, wa_nil ⟨ln2, _, pt2, (some o, []), fi ++ hd, _, _, _, _, _, _, _, by show _ = [_, _, _, _, Sl.d (.tup ((fi ++ hd).map eN)), _, _, _, _, _, _, _]; rw [List.map_append]; rfl, g1, by rw [List.length_append]; omega, h3⟩⟩))))⟩))))))))
        | some l =>
          have h3 : p.readGo j (some l, []) (fi ++ []) ((p.bare x).drop (i + 1)) = p.readSign j s x := h3
          obtain ⟨g1, g2, g3⟩ := gk _ rfl
          refine wb_cons (ws_set C lk4 mm4 (wv_d (wd_op od_cat (wd_var C lk4 mm4 (wd_ifexp (wt_cmp od_isN (wd_var C lk10 mm10 (wd_non ⟨rfl, _, rfl, ite_f (wd_tup (wa_nil ⟨Nat.zero_le _, _, _, rfl, rfl, le_line (by simp only [List.length_map, List.length_nil]; omega), _, pt4, ?_⟩))⟩))))))))
          exact wb_one (ws_set C lk2 mm2 (wv_d (wd_tup (wa_cons (wd_ifexp (wt_cmp od_isN (wd_var C lk10 mm10 (wd_non ⟨rfl, _, rfl, ite_f (wd_var C lk10 mm10 (wa_cons (wd_tup (wa_nil ⟨Nat.zero_le _, wa_nil ⟨ln2, _, pt2, (some l, []), fi ++ [], _, _, _, _, _, _, _, by show _ = [_, _, _, _, Sl.d (.tup ((fi ++ []).map eN)), _, _, _, _, _, _, _]; rw [List.map_append]; rfl, g1, by rw [List.length_append]; simp only [List.length_nil]; omega, h3⟩⟩))))⟩))))))))
end
end W3
end
section
set_option Elab.async false
set_option linter.all false
set_option maxRecDepth 100000
set_option maxHeartbeats 1000000
/-! WP: the law's walks: is_even, behind. -/
namespace W3
open PySem PySem.Spec PyProof.Rows L2 Pl
section
variable {M : Md} {CT CS CB : Addr} {f : Addr} {fd : FuncData}
theorem app_eq2 {xs ys : List Nat} : D.tup (xs.map eN ++ ys.map eN) = eT (xs ++ ys) := by show _ = D.tup _; rw [List.map_append]
/-! _law_is_even -/
def nLEven : List Str := ["_law_plan", "_law_way", "_law_seam"]
def cLEven : Ct := fun ds R => ∃ (p : Plan) (j : Bool) (m : Seam), ds = [planD p, wayD j, eM m] ∧ p.Ok ∧ SOk p m.1 ∧ SOk p m.2.1 ∧ m.2.2.length ≤ 11000 ∧ R (.bl (p.isEven j m))
theorem ok_leven (Th : M.Fn "_law_held" 2 3 cLHeld) (Fd : FunD M.K "_law_is_even" "_law_is_even" (defArgs (top 67)) (defBody (top 67)) (defScope (top 67)) [] [] f fd) : FnOk M.P M.w M.K M.mg M.base CX0 3 f fd nLEven (spC M.P M.w M.K 3 cLEven) := by
  refine fn_ok (N := nLEven) nLEven nLEven ["_law_held"] Fd (C8.fnScope_by (by decide +kernel)) rfl (by decide +kernel) (by decide +kernel) (by decide +kernel) fun q F0 H0 C ds R hl h => ?_
  obtain ⟨p, j, m, rfl, ok, h1, h2, h3, h⟩ := h
  have hh := (held_ok (j := j) ok h2).1
  refine wb_one (ws_ret (wd_cmp (od_eq C) (wd_fn Th (by omega) C mm0 (wa_cons (wd_var C lk0 mm0 (wa_cons (wd_var C lk1 mm1 (wa_cons (wd_ix xd_tup (wd_var C lk2 mm2 (wd_int ⟨_, _, _, rfl, rfl, at_0, wa_nil ⟨rfl, p, j, m.1, rfl, ok, h1, ?_⟩⟩)))))))))))
  refine wd_op od_cat (wd_ix xd_tup (wd_var C lk2 mm2 (wd_int ⟨_, _, _, rfl, rfl, at_2, wd_fn Th (by omega) C mm0 (wa_cons (wd_var C lk0 mm0 (wa_cons (wd_var C lk1 mm1 (wa_cons (wd_ix xd_tup (wd_var C lk2 mm2 (wd_int ⟨_, _, _, rfl, rfl, at_1, wa_nil ⟨rfl, p, j, m.2.1, rfl, ok, h2, _, _, rfl, rfl, ?_, _, _, isK_T _, by rw [app_eq2]; exact isK_T (m.2.2 ++ p.held j m.2.1), by rw [dec_T]; exact h⟩⟩))))))))⟩)))
  exact le_line (by simp only [List.length_map]; omega)
/-! _law_behind -/
def nLBehind : List Str := ["_law_plan", "_law_way", "_law_seam", "_law_sign", "_law_first", "_law_second", "_law_rest", "_law_late"]
def cLBehind : Ct := fun ds R => ∃ (p : Plan) (j : Bool) (m : Seam) (x : Nat), ds = [planD p, wayD j, eM m, eN x] ∧ p.Ok ∧ MOk p m ∧ x < p.n ∧ R (eBh (p.behind j m x))
theorem ok_lbehind (fx : Fx M CT CS CB) (Tr : M.Fn "_law_read" 5 4 cLRead) (Te : M.Fn "_law_is_even" 3 3 cLEven) (Fd : FunD M.K "_law_behind" "_law_behind" (defArgs (top 66)) (defBody (top 66)) (defScope (top 66)) [] [] f fd) : FnOk M.P M.w M.K M.mg M.base CX0 6 f fd ["_law_plan", "_law_way", "_law_seam", "_law_sign"] (spC M.P M.w M.K 4 cLBehind) := by
  refine fn_ok (N := nLBehind) nLBehind nLBehind ["_law_read", "len", "_law_is_even"] Fd (C8.fnScope_by (by decide +kernel)) rfl (by decide +kernel) (by decide +kernel) (by decide +kernel) fun q F0 H0 C ds R hl h => ?_
  obtain ⟨p, j, m, x, rfl, ok, hm, hx, h⟩ := h
  refine wb_cons (ws_set C lk4 mm4 (wv_d (wd_fn Tr (by omega) C mm0 (wa_cons (wd_var C lk0 mm0 (wa_cons (wd_var C lk1 mm1 (wa_cons (wd_ix xd_tup (wd_var C lk2 mm2 (wd_int ⟨_, _, _, rfl, rfl, at_0, wa_cons (wd_var C lk3 mm3 (wa_nil ⟨rfl, p, j, m.1, x, rfl, ok, hm.a, hx, _, pt4, ?_⟩))⟩)))))))))))
  unfold Plan.behind at h
  refine wb_cons (ws_if (wt_cmp od_isN (wd_var C lk4 mm4 (wd_non ⟨rfl, _, rfl, ?_⟩))))
  rw [eR_isN]
  cases ef : p.readSign j m.1 x with
  | none => rw [ef] at h; exact ite_t (wb_one (ws_ret (wd_tup (wa_nil ⟨Nat.zero_le _, h⟩))))
  | some ff =>
    rw [ef] at h
    dsimp only at h
    refine ite_f (wb_nil ?_)
    refine wb_cons (ws_set C lk5 mm5 (wv_d (wd_fn Tr (by omega) C mm0 (wa_cons (wd_var C lk0 mm0 (wa_cons (wd_var C lk1 mm1 (wa_cons (wd_ix xd_tup (wd_var C lk2 mm2 (wd_int ⟨_, _, _, rfl, rfl, at_1, wa_cons (wd_var C lk3 mm3 (wa_nil ⟨rfl, p, j, m.2.1, x, rfl, ok, hm.b, hx, _, pt5, ?_⟩))⟩)))))))))))
    refine wb_cons (ws_if (wt_cmp od_isN (wd_var C lk5 mm5 (wd_non ⟨rfl, _, rfl, ?_⟩))))
    rw [eR_isN]
    obtain ⟨f1, f2, f3⟩ := readSign_ok ok hm.a hx ef
    cases eg : p.readSign j m.2.1 x with
    | none => rw [eg] at h; exact ite_t (wb_one (ws_ret (wd_non h)))
    | some gg =>
      rw [eg] at h
      dsimp only at h
      obtain ⟨g1, g2, g3⟩ := readSign_ok ok hm.b hx eg
      have hml := hm.l
      refine ite_f (wb_nil ?_)
      refine wb_cons (ws_set C lk6 mm6 (wv_d (wd_eq (eT (m.2.2 ++ gg.2)) ?_ ⟨_, pt6, ?_⟩)))
      · exact wd_op od_cat (wd_ix xd_tup (wd_var C lk2 mm2 (wd_int ⟨_, _, _, rfl, rfl, at_2, wd_ix xd_tup (wd_var C lk5 mm5 (wd_int ⟨_, _, _, rfl, rfl, at_1, _, _, rfl, rfl, le_line (by simp only [List.length_map]; omega), app_eq2⟩))⟩)))
      · refine wb_cons (ws_if (wt_cmp (od_ne C) (wd_sliceT (POl := (· = none)) (POh := (· = some (ff.2.length : Int))) (wd_var C lk6 mm6 ⟨_, rfl, ?_⟩) (wo_none rfl) (wo_some (wd_callB cd_lenT C mm1 fx.n_len b_len (wa_cons (wd_ix xd_tup (wd_var C lk4 mm4 (wd_int ⟨_, _, _, rfl, rfl, at_1, wa_nil ⟨_, rfl, _, rfl, by rw [List.length_map]⟩⟩)))))))))
        rintro _ _ rfl rfl
        rw [cutD_take]
        refine wd_ix xd_tup (wd_var C lk4 mm4 (wd_int ⟨_, _, _, rfl, rfl, at_1, _, _, isK_T _, isK_T _, _, rfl, ?_⟩))
        rw [dec_T]
        refine ite_ndec (fun hc => wb_nil ?_) (fun hc => ?_)
        · rw [if_pos hc] at h
          refine wb_cons (ws_set C lk7 mm7 (wv_d (wd_eq (eM (ff.1, gg.1, (m.2.2 ++ gg.2).drop ff.2.length)) ?_ ⟨_, pt7, ?_⟩)))
          · refine wd_tup (wa_cons (wd_ix xd_tup (wd_var C lk4 mm4 (wd_int ⟨_, _, _, rfl, rfl, at_0, wa_cons (wd_ix xd_tup (wd_var C lk5 mm5 (wd_int ⟨_, _, _, rfl, rfl, at_0, wa_cons (wd_sliceT (POl := (· = some (ff.2.length : Int))) (POh := (· = none)) (wd_var C lk6 mm6 ⟨_, rfl, ?_⟩) (wo_some (wd_callB cd_lenT C mm1 fx.n_len b_len (wa_cons (wd_ix xd_tup (wd_var C lk4 mm4 (wd_int ⟨_, _, _, rfl, rfl, at_1, wa_nil ⟨_, rfl, _, rfl, by rw [List.length_map]⟩⟩)))))) (wo_none rfl))⟩)))⟩))))
            rintro _ _ rfl rfl
            rw [cutD_drop]
            exact wa_nil ⟨ln3, rfl⟩
          · refine wb_one (ws_ret (wd_ifexp (wt_val (wd_fn Te (by omega) C mm2 (wa_cons (wd_var C lk0 mm0 (wa_cons (wd_var C lk1 mm1 (wa_cons (wd_var C lk7 mm7 (wa_nil ⟨rfl, p, j, _, rfl, ok, f1, g1, ?_, _, rfl, ?_⟩)))))))))))
            · show ((m.2.2 ++ gg.2).drop ff.2.length).length ≤ 11000
              rw [List.length_drop, List.length_append]; omega
            · refine ite_b (fun ev => ?_) (fun ev => ?_)
              · rw [if_pos ev] at h; exact wd_var C lk7 mm7 h
              · rw [if_neg (by rw [ev]; exact Bool.false_ne_true)] at h; exact wd_non h
        · rw [if_neg hc] at h
          exact wb_one (ws_ret (wd_non h))
end
end W3
end
section
set_option Elab.async false
set_option linter.all false
set_option maxRecDepth 100000
set_option maxHeartbeats 1000000
/-! WQ: the law's walks: ordered. -/
namespace Pl.Plan
variable (p : Plan)
/-- where a sign is put in a text taken apart, from the end on -/
def spotGo (o : Nat) (found : List Nat) : Nat → Nat
  | 0 => 0
  | s + 1 => if 0 < p.c o ∧ p.c o < p.c (found.getD s 0) then spotGo o found s else s + 1
def insOne (found : List Nat) (o : Nat) : List Nat := found.take (p.spotGo o found found.length) ++ [o] ++ found.drop (p.spotGo o found found.length)
def insAll (found : List Nat) (x : Nat) : List Nat := (p.bare x).foldl p.insOne found
def ordered (xs : List Nat) : List Nat := xs.foldl p.insAll []
end Pl.Plan
namespace W3
open PySem PySem.Spec PyProof.Rows L2 Pl
theorem insOne_len (p : Plan) (found : List Nat) (o : Nat) : (p.insOne found o).length = found.length + 1 := by
  unfold Plan.insOne
  simp only [List.length_append, List.length_take, List.length_drop, List.length_cons, List.length_nil]
  omega
theorem insOne_mem {p : Plan} {found : List Nat} {o x : Nat} (h : x ∈ p.insOne found o) : x ∈ found ∨ x = o := by
  unfold Plan.insOne at h
  rcases List.mem_append.mp h with h | h
  · rcases List.mem_append.mp h with h | h
    · exact .inl (List.mem_of_mem_take h)
    · exact .inr (List.mem_singleton.mp h)
  · exact .inl (List.mem_of_mem_drop h)
theorem insFold_len (p : Plan) : ∀ (os found : List Nat), (os.foldl p.insOne found).length = found.length + os.length
  | [], _ => rfl
  | o :: os, found => by rw [List.foldl_cons, insFold_len p os, insOne_len, List.length_cons]; omega
theorem insFold_lt {p : Plan} : ∀ (os found : List Nat), (∀ x ∈ found, x < p.n) → (∀ x ∈ os, x < p.n) → ∀ x ∈ os.foldl p.insOne found, x < p.n
  | [], _, h, _ => h
  | o :: os, found, h, h2 => by
    rw [List.foldl_cons]
    refine insFold_lt os _ (fun x hx => ?_) (fun x hx => h2 x (List.mem_cons_of_mem _ hx))
    rcases insOne_mem hx with h' | h'
    · exact h x h'
    · rw [h']; exact h2 o List.mem_cons_self
theorem insAll_lt {p : Plan} (ok : p.Ok) : ∀ (xs found : List Nat), (∀ x ∈ found, x < p.n) → (∀ x ∈ xs, x < p.n) → ∀ x ∈ xs.foldl p.insAll found, x < p.n
  | [], _, h, _ => h
  | o :: os, found, h, h2 => by
    rw [List.foldl_cons]
    exact insAll_lt ok os _ (insFold_lt _ _ h (bare_row ok (h2 o List.mem_cons_self))) (fun x hx => h2 x (List.mem_cons_of_mem _ hx))
theorem insAll_len {p : Plan} (ok : p.Ok) : ∀ (xs found : List Nat), (∀ x ∈ xs, x < p.n) → (xs.foldl p.insAll found).length ≤ found.length + 8 * xs.length
  | [], _, _ => by simp
  | o :: os, found, h2 => by
    rw [List.foldl_cons]
    have h := insAll_len ok os (p.insAll found o) (fun x hx => h2 x (List.mem_cons_of_mem _ hx))
    have h8 := bare_few ok (h2 o List.mem_cons_self)
    have e : (p.insAll found o).length = found.length + (p.bare o).length := insFold_len p _ _
    rw [List.length_cons]
    omega
theorem at_N1 {xs : List Nat} {i : Nat} (h : i < xs.length) : atI (xs.map eN) (((i + 1 : Nat) : Int) - 1) = some (eN (xs.getD i 0)) := by
  rw [show ((i + 1 : Nat) : Int) - 1 = (i : Int) by omega]; exact at_N h
theorem getD_mem {xs : List Nat} {i : Nat} (h : i < xs.length) : xs.getD i 0 ∈ xs := by
  rw [List.getD_eq_getElem?_getD, List.getElem?_eq_getElem h]; exact List.getElem_mem h
section
variable {M : Md} {CT CS CB : Addr} {f : Addr} {fd : FuncData}
/-! _law_ordered -/
def nLOrdered : List Str := ["_law_plan", "_law_text_here", "_law_found", "_law_sign", "_law_one", "_law_spot"]
def cLOrdered : Ct := fun ds R => ∃ (p : Plan) (xs : List Nat), ds = [planD p, eT xs] ∧ p.Ok ∧ (∀ x ∈ xs, x < p.n) ∧ xs.length ≤ 30000 ∧ R (.lst ((p.ordered xs).map eN))
theorem ok_lordered (fx : Fx M CT CS CB) (Tb : M.Fn "_law_bare" 4 2 (cLBare 4)) (Fd : FunD M.K "_law_ordered" "_law_ordered" (defArgs (top 57)) (defBody (top 57)) (defScope (top 57)) [] [] f fd) : FnOk M.P M.w M.K M.mg M.base CX0 5 f fd ["_law_plan", "_law_text_here"] (spC M.P M.w M.K 2 cLOrdered) := by
  refine fn_ok (N := nLOrdered) nLOrdered nLOrdered ["_law_bare", "len"] Fd (C8.fnScope_by (by decide +kernel)) rfl (by decide +kernel) (by decide +kernel) (by decide +kernel) fun q F0 H0 C ds R hl h => ?_
  obtain ⟨p, xs, rfl, ok, hxs, hxl, h⟩ := h
  refine wb_cons (ws_set C lk2 mm2 (wv_f (wf_lst (wa_nil ⟨Nat.zero_le _, _, pt2, ?_⟩))))
  refine wb_cons (ws_for (ns := [3]) C (wi_tup (wd_var C lk1 mm1 ⟨_, rfl, fun i ρ' => ∃ s3 s4 s5 : Sl, ρ' = [.d (planD p), .d (eT xs), .own (((xs.take i).foldl p.insAll []).map eN), s3, s4, s5], ⟨_, _, _, rfl⟩, ?_, ?_⟩)))
  · rintro ρ' ⟨s3, s4, s5, rfl⟩
    rw [List.length_map, List.take_length]
    refine wb_frzL pt2 pt2 ?_
    exact wb_one (ws_ret (wd_var C lk2 mm2 h))
  · rintro i d ρ1 ed ⟨s3, s4, s5, rfl⟩
    have hi : i < xs.length := by have := (List.getElem?_eq_some_iff.mp ed).1; rwa [List.length_map] at this
    rw [List.getElem?_map, List.getElem?_eq_getElem hi] at ed
    cases ed
    have hx : xs[i] < p.n := hxs _ (List.getElem_mem hi)
    have et : (xs.take (i + 1)).foldl p.insAll [] = p.insAll ((xs.take i).foldl p.insAll []) xs[i] := by
      rw [List.take_succ, List.getElem?_eq_getElem hi, Option.toList_some, List.foldl_append]; rfl
    have hfl := insAll_lt ok (xs.take i) [] (fun _ z => nomatch z) fun x hx => hxs x (List.mem_of_mem_take hx)
    have hfn := insAll_len ok (xs.take i) [] fun x hx => hxs x (List.mem_of_mem_take hx)
    rw [List.length_take] at hfn
    dsimp only
    rw [et]
    generalize (xs.take i).foldl p.insAll [] = F at hfl hfn ⊢
    generalize xs[i] = x at hx ⊢
    have h4 : x < 4 := by have := ok.few; have : x < p.cls.length := hx; omega
    have hb := bare_row ok hx
    have hb8 := bare_few ok hx
    simp only [List.length_nil] at hfn
    refine wg_name C lk3 mm3 pt3 ?_
    refine wb_one (ws_for (ns := [4]) C (wi_tup (wd_fn Tb (Nat.le_refl _) C mm0 (wa_cons (wd_var C lk0 mm0 (wa_cons (wd_var C lk3 mm3 (wa_nil ⟨rfl, p, x, rfl, ok, hx, h4, _, rfl, fun k ρ' => ∃ s4 s5 : Sl, ρ' = [.d (planD p), .d (eT xs), .own ((((p.bare x).take k).foldl p.insOne F).map eN), .d (eN x), s4, s5], ⟨_, _, rfl⟩, ?_, ?_⟩))))))))
    · rintro ρ' ⟨s4', s5', rfl⟩
      rw [List.length_map, List.take_length]
      exact ⟨_, _, _, rfl⟩
    · rintro k d ρ1 ed ⟨s4', s5', rfl⟩
      have hk : k < (p.bare x).length := by have := (List.getElem?_eq_some_iff.mp ed).1; rwa [List.length_map] at this
      rw [List.getElem?_map, List.getElem?_eq_getElem hk] at ed
      cases ed
      have ho : (p.bare x)[k] < p.n := hb _ (List.getElem_mem hk)
      have et2 : ((p.bare x).take (k + 1)).foldl p.insOne F = p.insOne (((p.bare x).take k).foldl p.insOne F) (p.bare x)[k] := by
        rw [List.take_succ, List.getElem?_eq_getElem hk, Option.toList_some, List.foldl_append]; rfl
      have hgl := insFold_lt ((p.bare x).take k) F hfl fun y hy => hb y (List.mem_of_mem_take hy)
      have hgn := insFold_len p ((p.bare x).take k) F
      rw [List.length_take] at hgn
      dsimp only
      rw [et2]
      generalize ((p.bare x).take k).foldl p.insOne F = G at hgl hgn ⊢
      generalize (p.bare x)[k] = o at ho ⊢
      refine wg_name C lk4 mm4 pt4 ?_
      refine wb_cons (ws_set C lk5 mm5 (wv_d (wd_thawL pt2 pt2 ?_)))
      refine wd_callB cd_lenL C mm1 fx.n_len b_len (wa_cons (wd_var C lk2 mm2 (wa_nil ⟨_, rfl, .int, _, pt5, ?_⟩)))
      rw [List.length_map]
      refine wb_cons (ws_while C (fun m ρ' => m ≤ G.length ∧ ρ' = [.d (planD p), .d (eT xs), .own (G.map eN), .d (eN x), .d (eN o), .d (eN m)] ∧ p.spotGo o G m = p.spotGo o G G.length) G.length ⟨Nat.le_refl _, rfl, rfl⟩ ?_)
      rintro m ρ1 ⟨hm, rfl, hs⟩
      refine wt_eq (match m with | 0 => false | s + 1 => decide (0 < p.c o ∧ p.c o < p.c (G.getD s 0))) (wt_thawL pt2 pt2 ?_) ?_
      · refine wt_w (ww_and (wt_cmp od_gt (wd_var C lk5 mm5 (wd_int ⟨_, _, rfl, rfl, _, rfl, ?_⟩))))
        cases m with
        | zero => exact ite_f rfl
        | succ s =>
          rw [decide_eq_true (by omega)]
          refine ite_t ?_
          have hg : G.getD s 0 < p.n := hgl _ (getD_mem (by omega))
          refine ww_and1 (wt_chain od_lt od_lt (wd_int (wd_ix xd_tup (wd_ix xd_tup (wd_var C lk0 mm0 (wd_int ⟨_, _, _, rfl, rfl, at_0, wd_var C lk4 mm4 ⟨_, _, _, rfl, rfl, at_c ho, _, _, rfl, rfl, _, rfl, ite_dec (fun h1 => ?_) (fun h1 => ?_)⟩⟩))))))
          · refine wd_ix xd_tup (wd_ix xd_tup (wd_var C lk0 mm0 (wd_int ⟨_, _, _, rfl, rfl, at_0, wd_ix xd_lst (wd_var C lk2 mm2 (wd_op od_sub (wd_var C lk5 mm5 (wd_int ⟨_, _, rfl, rfl, _, _, _, rfl, rfl, at_N1 (by omega), _, _, _, rfl, rfl, at_c hg, _, _, rfl, rfl, _, rfl, ?_⟩))))⟩)))
            rw [Bool.eq_iff_iff, decide_eq_true_eq, decide_eq_true_eq]; omega
          · exact (decide_eq_false (by omega)).symm
      · cases m with
        | zero =>
          refine ite_f ?_
          have hs : 0 = p.spotGo o G G.length := hs
          refine wb_one (ws_insert C lk2 mm2 (wd_var C lk5 mm5 (wd_var C lk4 mm4 ⟨0, rfl, by omega, by have := line_big; rw [List.length_map]; omega, _, pt2, .d (eN o), .d (eN 0), ?_⟩)))
          unfold Plan.insOne
          rw [← hs, List.map_append, List.map_append, List.map_take, List.map_drop]; rfl
        | succ s =>
          have hs : (if 0 < p.c o ∧ p.c o < p.c (G.getD s 0) then p.spotGo o G s else s + 1) = p.spotGo o G G.length := hs
          refine ite_dec (fun h1 => ?_) (fun h1 => ?_)
          · rw [if_pos h1] at hs
            refine wb_one (ws_set C lk5 mm5 (wv_d (wd_op od_sub (wd_var C lk5 mm5 (wd_int ⟨_, _, rfl, rfl, _, pt5, s, by omega, by omega, ?_, hs⟩)))))
            rw [show ((s + 1 : Nat) : Int) - 1 = (s : Int) by omega]
          · rw [if_neg h1] at hs
            refine wb_one (ws_insert C lk2 mm2 (wd_var C lk5 mm5 (wd_var C lk4 mm4 ⟨s + 1, rfl, by omega, by have := line_big; rw [List.length_map]; omega, _, pt2, .d (eN o), .d (eN (s + 1)), ?_⟩)))
            unfold Plan.insOne
            rw [← hs, List.map_append, List.map_append, List.map_take, List.map_drop]; rfl
end
end W3
end
section
set_option Elab.async false
set_option linter.all false
set_option maxRecDepth 100000
set_option maxHeartbeats 1000000
/-! WR: the law's walks: plain, is_fine, is_broken. -/
namespace Pl.Plan
variable (p : Plan)
def lpBeh (q : List Nat × Option Nat) : List Nat := match q.2 with
  | none => []
  | some l => q.1.drop (l + 1)
def lpLate (q : List Nat × Option Nat) (x : Nat) : Option Nat := match q.2 with
  | none => none
  | some l => p.joined (q.1.getD l 0) x
def lpFree (q : List Nat × Option Nat) (x : Nat) : Bool := (lpBeh q).all fun k => decide (0 < p.c k ∧ p.c k < p.c x)
def lpStep (q : List Nat × Option Nat) (x : Nat) : List Nat × Option Nat :=
  match p.lpLate q x with
  | some l' => if p.lpFree q x then (q.1.set (q.2.getD 0) l', q.2) else (q.1 ++ [x], if p.c x = 0 then some q.1.length else q.2)
  | none => (q.1 ++ [x], if p.c x = 0 then some q.1.length else q.2)
def lawPlain (j : Bool) (xs : List Nat) : List Nat := if j then ((p.ordered xs).foldl p.lpStep ([], none)).1 else p.ordered xs
end Pl.Plan
namespace W3
open PySem PySem.Spec PyProof.Rows L2 Pl
structure LpOk (p : Plan) (q : List Nat × Option Nat) : Prop where
  m : ∀ x ∈ q.1, x < p.n
  l : ∀ l, q.2 = some l → l < q.1.length
theorem lpStep_ok {p : Plan} (ok : p.Ok) {q : List Nat × Option Nat} {x : Nat} (h : LpOk p q) (hx : x < p.n) : LpOk p (p.lpStep q x) ∧ (p.lpStep q x).1.length ≤ q.1.length + 1 := by
  have app : LpOk p (q.1 ++ [x], if p.c x = 0 then some q.1.length else q.2) ∧ (q.1 ++ [x], if p.c x = 0 then some q.1.length else q.2).1.length ≤ q.1.length + 1 := by
    refine ⟨⟨fun y hy => ?_, fun l e => ?_⟩, by simp⟩
    · rcases List.mem_append.mp hy with hy | hy
      · exact h.m y hy
      · rw [List.mem_singleton.mp hy]; exact hx
    · dsimp only at e ⊢
      rw [List.length_append]
      by_cases hc : p.c x = 0
      · rw [if_pos hc] at e; cases e; simp
      · rw [if_neg hc] at e; have := h.l l e; omega
  unfold Plan.lpStep
  cases e : p.lpLate q x with
  | none => exact app
  | some l' =>
    cases ef : p.lpFree q x with
    | false => exact app
    | true =>
      refine ⟨⟨fun y hy => ?_, fun l e => ?_⟩, by simp⟩
      · rcases List.mem_or_eq_of_mem_set hy with hy | hy
        · exact h.m y hy
        · rw [hy]
          unfold Plan.lpLate at e
          cases e2 : q.2 with
          | none => rw [e2] at e; cases e
          | some l => rw [e2] at e; exact joined_lt ok e
      · show l < (q.1.set _ _).length
        rw [List.length_set]; exact h.l l e
theorem lpFold_ok {p : Plan} (ok : p.Ok) : ∀ (xs : List Nat) {q : List Nat × Option Nat}, LpOk p q → (∀ x ∈ xs, x < p.n) → LpOk p (xs.foldl p.lpStep q) ∧ (xs.foldl p.lpStep q).1.length ≤ q.1.length + xs.length
  | [], _, h, _ => ⟨h, Nat.le_refl _⟩
  | x :: xs, q, h, hx => by
    have h1 := lpStep_ok ok h (hx x List.mem_cons_self)
    have h2 := lpFold_ok ok xs h1.1 fun y hy => hx y (List.mem_cons_of_mem _ hy)
    rw [List.foldl_cons]
    refine ⟨h2.1, ?_⟩
    have := h1.2
    have := h2.2
    rw [List.length_cons]; omega
theorem way_apart (j : Bool) : decide ((if j = true then ("joined" : Str) else "apart") = "apart") = !j := by cases j <;> decide +kernel
section
variable {M : Md} {CT CS CB : Addr} {f : Addr} {fd : FuncData}
/-! _law_plain -/
def nLPlain : List Str := ["_law_plan", "_law_way", "_law_text_here", "_law_apart", "_law_found", "_law_last", "_law_sign", "_law_late", "_law_behind_here", "_law_is_free", "_law_one"]
def lLPlain : List Str := ["_law_plan", "_law_way", "_law_text_here", "_law_apart", "_law_found", "_law_last", "_law_sign", "_law_late", "_law_behind_here", "_law_is_free"]
def cLPlain : Ct := fun ds R => ∃ (p : Plan) (j : Bool) (xs : List Nat), ds = [planD p, wayD j, eT xs] ∧ p.Ok ∧ (∀ x ∈ xs, x < p.n) ∧ xs.length ≤ 30000 ∧ R (eT (p.lawPlain j xs))
theorem ok_lplain (fx : Fx M CT CS CB) (To : M.Fn "_law_ordered" 5 2 cLOrdered) (Tj : M.Fn "_law_joined" 1 3 cLJoined) (Fd : FunD M.K "_law_plain" "_law_plain" (defArgs (top 58)) (defBody (top 58)) (defScope (top 58)) [] [] f fd) : FnOk M.P M.w M.K M.mg M.base CX0 6 f fd ["_law_plan", "_law_way", "_law_text_here"] (spC M.P M.w M.K 3 cLPlain) := by
  refine fn_ok (N := nLPlain) lLPlain lLPlain ["_law_ordered", "tuple", "_law_joined", "all", "len"] Fd (C8.fnScope_by (by decide +kernel)) rfl (by decide +kernel) (by decide +kernel) (by decide +kernel) fun q F0 H0 C ds R hl h => ?_
  obtain ⟨p, j, xs, rfl, ok, hxs, hxl, h⟩ := h
  have hol := insAll_lt ok xs [] (fun _ z => nomatch z) hxs
  have hon := insAll_len ok xs [] hxs
  simp only [List.length_nil] at hon
  refine wb_cons (ws_set C lk3 mm3 (wv_d (wd_fn To (by omega) C mm0 (wa_cons (wd_var C lk0 mm0 (wa_cons (wd_var C lk2 mm2 (wa_nil ⟨rfl, p, xs, rfl, ok, hxs, hxl, _, pt3, ?_⟩))))))))
  refine wb_cons (ws_if (wt_cmp od_eqS (wd_var C lk1 mm1 (wd_str ⟨_, _, rfl, rfl, _, rfl, ?_⟩))))
  rw [way_apart]
  unfold Plan.lawPlain at h
  cases j with
  | false => exact ite_t (wb_one (ws_ret (wd_callTy cd_tuple C mm1 fx.n_tuple b_tuple (wa_cons (wd_var C lk3 mm3 (wa_nil ⟨_, .inl rfl, h⟩))))))
  | true =>
    refine ite_f (wb_nil ?_)
    rw [if_pos rfl] at h
    have hol : ∀ x ∈ p.ordered xs, x < p.n := hol
    have hon : (p.ordered xs).length ≤ 0 + 8 * xs.length := hon
    generalize p.ordered xs = os at h hol hon ⊢
    have l1 : (defScope (top 58)).names.lookup ("_law_found" : Str) = some .local := by decide +kernel
    have l2 : (defScope (top 58)).names.lookup ("_law_last" : Str) = some .local := by decide +kernel
    refine wb_cons (ws_par2 C lk4 lk5 (by decide) l1 l2 (wv_f (wf_lst (wa_nil ⟨Nat.zero_le _, wv_d (wd_non ⟨_, _, pt4, pt5, ?_⟩)⟩))) rfl)
    refine wb_cons (ws_for (ns := [6]) C (wi_lst (wd_var C lk3 mm3 ⟨_, rfl, fun i ρ' => ∃ s6 s7 s8 s9 s10 : Sl, ρ' = [.d (planD p), .d (wayD true), .d (eT xs), .d (.lst (os.map eN)), .own ((((os.take i).foldl p.lpStep ([], none)).1).map eN), .d (eO ((os.take i).foldl p.lpStep ([], none)).2), s6, s7, s8, s9, s10], ⟨_, _, _, _, _, rfl⟩, ?_, ?_⟩)))
    · rintro ρ' ⟨s6, s7, s8, s9, s10, rfl⟩
      rw [List.length_map, List.take_length]
      refine wb_frzL pt4 pt4 ?_
      exact wb_one (ws_ret (wd_callTy cd_tuple C mm1 fx.n_tuple b_tuple (wa_cons (wd_var C lk4 mm4 (wa_nil ⟨_, .inl rfl, h⟩)))))
    · rintro i d ρ1 ed ⟨s6, s7, s8, s9, s10, rfl⟩
      have hi : i < os.length := by have := (List.getElem?_eq_some_iff.mp ed).1; rwa [List.length_map] at this
      rw [List.getElem?_map, List.getElem?_eq_getElem hi] at ed
      cases ed
      have hx : os[i] < p.n := hol _ (List.getElem_mem hi)
      have et : (os.take (i + 1)).foldl p.lpStep ([], none) = p.lpStep ((os.take i).foldl p.lpStep ([], none)) os[i] := by
        rw [List.take_succ, List.getElem?_eq_getElem hi, Option.toList_some, List.foldl_append]; rfl
      have hk := lpFold_ok ok (os.take i) (q := ([], none)) ⟨(fun _ z => nomatch z), (fun _ z => nomatch z)⟩ fun x hx => hol x (List.mem_of_mem_take hx)
      rw [List.length_take] at hk
      dsimp only
      rw [et]
      generalize (os.take i).foldl p.lpStep ([], none) = q at hk ⊢
      generalize os[i] = x at hx ⊢
      obtain ⟨hk, hkn⟩ := hk
      simp only [List.length_nil] at hkn
      have hql : q.1.length ≤ 300000 := by omega
      refine wg_name C lk6 mm6 pt6 ?_
      -- late
      refine wb_cons (ws_set C lk7 mm7 (wv_d (wd_eq (eO (p.lpLate q x)) (wd_thawL pt4 pt4 ?_) ⟨_, pt7, ?_⟩)))
      · refine wd_ifexp (wt_cmp od_isN (wd_var C lk5 mm5 (wd_non ⟨rfl, _, rfl, ?_⟩)))
        rw [eO_isN]
        unfold Plan.lpLate
        cases e2 : q.2 with
        | none => exact ite_t (wd_non ⟨.non, rfl⟩)
        | some l =>
          have hl := hk.l l e2
          refine ite_f ?_
          refine wd_fn Tj (by omega) C mm2 (wa_cons (wd_var C lk0 mm0 (wa_cons (wd_ix xd_lst (wd_var C lk4 mm4 (wd_var C lk5 mm5 ⟨_, _, _, rfl, rfl, at_N hl, wa_cons (wd_var C lk6 mm6 (wa_nil ⟨rfl, p, q.1.getD l 0, x, rfl, ok, hk.m _ (getD_mem hl), hx, ?_, rfl⟩))⟩))))))
          cases p.joined (q.1.getD l 0) x with
          | none => exact .non
          | some l => exact .int
      -- behind
      refine wb_cons (ws_set C lk8 mm8 (wv_d (wd_eq (.lst ((Plan.lpBeh q).map fun k => eN (p.c k))) ?_ ⟨_, pt8, ?_⟩)))
      · refine wd_ifexp (wt_cmp od_isN (wd_var C lk5 mm5 (wd_non ⟨rfl, _, rfl, ?_⟩)))
        rw [eO_isN]
        unfold Plan.lpBeh
        cases e2 : q.2 with
        | none => exact ite_t (wd_fresh (wf_lst (wa_nil ⟨Nat.zero_le _, rfl⟩)))
        | some l =>
          refine ite_f (wd_fresh (wf_thawL pt4 pt4 ?_))
          refine wf_c (own := [("_law_one", 10)]) (ns := [10]) C (blkOk_by (show blkC nLPlain (defScope (top 58)) _ _ = true by decide +kernel)) (by decide) (wi_lst (wd_sliceL (POl := (· = some ((l + 1 : Nat) : Int))) (POh := (· = none)) (wd_var C lk4 mm4 ⟨_, rfl, ?_⟩) (wo_some (wd_op od_add (wd_var C lk5 mm5 (wd_int ⟨_, _, rfl, rfl, _, rfl, rfl⟩)))) (wo_none rfl)))
          rintro _ _ rfl rfl
          refine ⟨_, rfl, ?_⟩
          rw [cutD_drop]
          refine lc_map (q.1.drop (l + 1)) eN (fun k => eN (p.c k)) (le_line (by rw [List.length_drop]; omega)) ⟨fun d hd => ?_, rfl⟩ fun y hy q' => ?_
          · obtain ⟨y, _, rfl⟩ := List.mem_map.mp hd
            exact .int
          refine wg_in C ["_law_one", "_law_plan"] ["_law_one"] [] rfl rfl rfl fun C' => wg_name C' lk10 mm0 pt10 ?_
          intro q'
          refine wd_in C ["_law_one", "_law_plan"] ["_law_one"] [] rfl rfl rfl fun C' => ?_
          exact wd_ix xd_tup (wd_ix xd_tup (wd_var C' lk0 mm1 (wd_int ⟨_, _, _, rfl, rfl, at_0, wd_var C' lk10 mm0 ⟨_, _, _, rfl, rfl, at_c (hk.m y (List.mem_of_mem_drop hy)), rfl⟩⟩)))
      -- is_free
      have hbl : (Plan.lpBeh q).length ≤ 300000 := by
        unfold Plan.lpBeh
        cases q.2 with
        | none => exact Nat.zero_le _
        | some l => show (q.1.drop (l + 1)).length ≤ _; rw [List.length_drop]; omega
      refine wb_cons (ws_set C lk9 mm9 (wv_d (wd_eq (.bl (p.lpFree q x)) ?_ ⟨_, pt9, ?_⟩)))
      · refine wd_callB (cd_all C) C mm3 fx.n_all b_all (wa_cons (wd_fresh (wf_eq (((Plan.lpBeh q).map fun k => decide (0 < p.c k ∧ p.c k < p.c x)).map D.bl) ?_ (wa_nil ⟨_, rfl, ?_⟩))))
        · refine wf_c (own := [("_law_one", 10)]) (ns := [10]) C (blkOk_by (show blkC nLPlain (defScope (top 58)) _ _ = true by decide +kernel)) (by decide) (wi_lst (wd_var C lk8 mm8 ⟨_, rfl, ?_⟩))
          refine lc_map (Plan.lpBeh q) (fun k => eN (p.c k)) (fun k => .bl (decide (0 < p.c k ∧ p.c k < p.c x))) (le_line (by omega)) (by rw [List.map_map]; rfl) fun y hy q' => ?_
          refine wg_in C ["_law_one", "_law_plan", "_law_sign"] ["_law_one"] [] rfl rfl rfl fun C' => wg_name C' lk10 mm0 pt10 ?_
          intro q'
          refine wd_in C ["_law_one", "_law_plan", "_law_sign"] ["_law_one"] [] rfl rfl rfl fun C' => ?_
          refine wd_chain od_lt od_lt (wd_int (wd_var C' lk10 mm0 ⟨_, _, rfl, rfl, _, rfl, ite_dec (fun h1 => ?_) (fun h1 => ?_)⟩))
          · refine wd_ix xd_tup (wd_ix xd_tup (wd_var C' lk0 mm1 (wd_int ⟨_, _, _, rfl, rfl, at_0, wd_var C' lk6 mm2 ⟨_, _, _, rfl, rfl, at_c hx, _, _, rfl, rfl, ?_⟩⟩)))
            congr 1
            rw [Bool.eq_iff_iff, decide_eq_true_eq, decide_eq_true_eq]
            omega
          · rw [decide_eq_false (by omega)]
        · unfold Plan.lpFree
          rw [List.all_map]; rfl
      -- the step
      refine wb_one (ws_if (wt_eq ((p.lpLate q x).isSome && p.lpFree q x) ?_ ?_))
      · refine wt_w (ww_and (wt_cmp od_notN (wd_var C lk7 mm7 (wd_non ⟨rfl, _, rfl, ?_⟩))))
        rw [eO_isN]
        cases p.lpLate q x with
        | none => exact ite_f rfl
        | some l => exact ite_t (ww_and1 (wt_val (wd_var C lk9 mm9 ⟨_, rfl, rfl⟩)))
      · refine ite_b (fun ec => ?_) (fun ec => ?_)
        · rw [Bool.and_eq_true] at ec
          obtain ⟨l', el⟩ := Option.isSome_iff_exists.mp ec.1
          obtain ⟨l, e2⟩ : ∃ l, q.2 = some l := by
            unfold Plan.lpLate at el
            cases e2 : q.2 with
            | none => rw [e2] at el; cases el
            | some l => exact ⟨l, rfl⟩
          have es : p.lpStep q x = (q.1.set l l', q.2) := by unfold Plan.lpStep; rw [el]; show (if p.lpFree q x = true then _ else _) = _; rw [if_pos ec.2, e2]; rfl
          rw [es, el, e2]
          exact wb_one (ws_putL C lk4 mm4 (wd_var C lk7 mm7 (wd_var C lk5 mm5 ⟨l, rfl, by rw [List.length_map]; exact hk.l l e2, _, pt4, _, _, _, _, _, by show _ = [_, _, _, _, Sl.own ((q.1.set l l').map eN), _, _, _, _, _, _]; rw [List.map_set]; rfl⟩)))
        · have es : p.lpStep q x = (q.1 ++ [x], if p.c x = 0 then some q.1.length else q.2) := by
            unfold Plan.lpStep
            cases el : p.lpLate q x with
            | none => rfl
            | some l' => rw [el, Option.isSome_some, Bool.true_and] at ec; rw [ec]; rfl
          rw [es]
          refine wb_cons (ws_append C lk4 mm4 (wd_var C lk6 mm6 ⟨by have := line_big; rw [List.length_map]; omega, _, pt4, ?_⟩))
          refine wb_one (ws_set C lk5 mm5 (wv_d (wd_eq (eO (if p.c x = 0 then some q.1.length else q.2)) (wd_thawL pt4 pt4 ?_) ⟨_, pt5, _, _, _, _, _, by rw [List.map_append]; rfl⟩)))
          refine wd_ifexp (wt_cmp (od_eq C) (wd_ix xd_tup (wd_ix xd_tup (wd_var C lk0 mm0 (wd_int ⟨_, _, _, rfl, rfl, at_0, wd_var C lk6 mm6 ⟨_, _, _, rfl, rfl, at_c hx, wd_int ⟨_, _, isK_I _, isK_I 0, _, rfl, ?_⟩⟩⟩)))))
          refine ite_dec (fun h1 => ?_) (fun h1 => ?_)
          · rw [NestedKey.num.injEq] at h1
            rw [if_pos (by omega)]
            refine wd_op od_sub (wd_callB cd_lenL C mm4 fx.n_len b_len (wa_cons (wd_var C lk4 mm4 (wa_nil ⟨_, rfl, wd_int ⟨_, _, rfl, rfl, .int, ?_⟩⟩))))
            rw [List.length_append, List.length_map]
            show D.int _ = D.int _
            congr 1
            simp only [List.length_cons, List.length_nil]; omega
          · rw [NestedKey.num.injEq] at h1
            rw [if_neg (by omega)]
            refine wd_var C lk5 mm5 ⟨?_, rfl⟩
            cases q.2 with
            | none => exact .non
            | some l => exact .int
end
end W3
end
section
set_option Elab.async false
set_option linter.all false
set_option maxRecDepth 100000
set_option maxHeartbeats 1000000
/-! XA: the law's walks: is_fine, is_broken. -/
namespace Pl.Plan
variable (p : Plan)
def lawFine (j : Bool) (a b : List Nat) : Bool := decide (p.lawPlain j a ++ p.lawPlain j b = p.lawPlain j (a ++ b))
def lawBroken (j : Bool) (start : Nat) (a b : List Nat) : Bool := decide (b.take 1 = [start]) && ((p.wrongAt (a ++ b)).isNone && !p.lawFine j a b)
end Pl.Plan
namespace W3
open PySem PySem.Spec PyProof.Rows L2 Pl
theorem wrongGo_lt {p : Plan} : ∀ {xs : List Nat} {i r : Nat}, p.wrongGo i r xs = none → ∀ x ∈ xs, x < p.n
  | [], _, _, _ => (fun _ z => nomatch z)
  | y :: ys, i, r, h => by
    unfold Plan.wrongGo at h
    by_cases hy : y < p.n
    · rw [if_pos hy] at h
      cases e : p.runGo r (p.bare y) with
      | none => rw [e] at h; cases h
      | some r' =>
        rw [e] at h
        intro x hx
        rcases List.mem_cons.mp hx with h' | h'
        · rw [h']; exact hy
        · exact wrongGo_lt h x h'
    · rw [if_neg hy] at h; cases h
theorem lawPlain_len {p : Plan} (ok : p.Ok) {j : Bool} {xs : List Nat} (hx : ∀ x ∈ xs, x < p.n) : (p.lawPlain j xs).length ≤ 8 * xs.length := by
  have h1 := insAll_len ok xs [] hx
  have h2 := insAll_lt ok xs [] (fun _ z => nomatch z) hx
  simp only [List.length_nil] at h1
  have h1 : (p.ordered xs).length ≤ 0 + 8 * xs.length := h1
  unfold Plan.lawPlain
  cases j with
  | false => rw [if_neg Bool.false_ne_true]; omega
  | true =>
    rw [if_pos rfl]
    have h3 := (lpFold_ok ok (p.ordered xs) (q := ([], none)) ⟨(fun _ z => nomatch z), (fun _ z => nomatch z)⟩ h2).2
    simp only [List.length_nil] at h3
    omega
section
variable {M : Md} {CT CS CB : Addr} {f : Addr} {fd : FuncData}
/-! _law_is_fine -/
def nLFine : List Str := ["_law_plan", "_law_way", "_law_one", "_law_other"]
def cLFine : Ct := fun ds R => ∃ (p : Plan) (j : Bool) (a b : List Nat), ds = [planD p, wayD j, eT a, eT b] ∧ p.Ok ∧ (∀ x ∈ a, x < p.n) ∧ (∀ x ∈ b, x < p.n) ∧ a.length ≤ 15000 ∧ b.length ≤ 15000 ∧ R (.bl (p.lawFine j a b))
theorem ok_lfine (Tp : M.Fn "_law_plain" 6 3 cLPlain) (Fd : FunD M.K "_law_is_fine" "_law_is_fine" (defArgs (top 63)) (defBody (top 63)) (defScope (top 63)) [] [] f fd) : FnOk M.P M.w M.K M.mg M.base CX0 7 f fd nLFine (spC M.P M.w M.K 4 cLFine) := by
  refine fn_ok (N := nLFine) nLFine nLFine ["_law_plain"] Fd (C8.fnScope_by (by decide +kernel)) rfl (by decide +kernel) (by decide +kernel) (by decide +kernel) fun q F0 H0 C ds R hl h => ?_
  obtain ⟨p, j, a, b, rfl, ok, ha, hb, la, lb, h⟩ := h
  have l1 := lawPlain_len (j := j) ok ha
  have l2 := lawPlain_len (j := j) ok hb
  refine wb_one (ws_ret (wd_cmp (od_eq C) (wd_op od_cat (wd_fn Tp (by omega) C mm0 (wa_cons (wd_var C lk0 mm0 (wa_cons (wd_var C lk1 mm1 (wa_cons (wd_var C lk2 mm2 (wa_nil ⟨rfl, p, j, a, rfl, ok, ha, by omega, ?_⟩)))))))))))
  refine wd_fn Tp (by omega) C mm0 (wa_cons (wd_var C lk0 mm0 (wa_cons (wd_var C lk1 mm1 (wa_cons (wd_var C lk3 mm3 (wa_nil ⟨rfl, p, j, b, rfl, ok, hb, by omega, _, _, rfl, rfl, le_line (by simp only [List.length_map]; omega), ?_⟩)))))))
  refine wd_fn Tp (by omega) C mm0 (wa_cons (wd_var C lk0 mm0 (wa_cons (wd_var C lk1 mm1 (wa_cons (wd_op od_cat (wd_var C lk2 mm2 (wd_var C lk3 mm3 ⟨_, _, rfl, rfl, le_line (by simp only [List.length_map]; omega), wa_nil ⟨rfl, p, j, a ++ b, by rw [app_eq2], ok, ?_, by rw [List.length_append]; omega, _, _, by rw [app_eq2]; exact isK_T _, isK_T _, by rw [dec_T]; exact h⟩⟩))))))))
  intro x hx
  rcases List.mem_append.mp hx with h' | h'
  · exact ha x h'
  · exact hb x h'
/-! _law_is_broken -/
def nLBroken : List Str := ["_law_plan", "_law_way", "_law_start", "_law_one", "_law_other"]
def cLBroken : Ct := fun ds R => ∃ (p : Plan) (j : Bool) (start : Nat) (a b : List Nat), ds = [planD p, wayD j, eN start, eT a, eT b] ∧ p.Ok ∧ a.length ≤ 15000 ∧ b.length ≤ 15000 ∧ R (.bl (p.lawBroken j start a b))
theorem ok_lbroken (Tw : M.Fn "_law_wrong_at" 5 2 cLWrong) (Tf : M.Fn "_law_is_fine" 7 4 cLFine) (Fd : FunD M.K "_law_is_broken" "_law_is_broken" (defArgs (top 69)) (defBody (top 69)) (defScope (top 69)) [] [] f fd) : FnOk M.P M.w M.K M.mg M.base CX0 8 f fd nLBroken (spC M.P M.w M.K 5 cLBroken) := by
  refine fn_ok (N := nLBroken) nLBroken nLBroken ["_law_wrong_at", "_law_is_fine"] Fd (C8.fnScope_by (by decide +kernel)) rfl (by decide +kernel) (by decide +kernel) (by decide +kernel) fun q F0 H0 C ds R hl h => ?_
  obtain ⟨p, j, start, a, b, rfl, ok, la, lb, h⟩ := h
  unfold Plan.lawBroken at h
  refine wb_cons (ws_if (wt_eq (!(decide (b.take 1 = [start]) && (p.wrongAt (a ++ b)).isNone)) ?_ ?_))
  · refine wt_w (ww_or (wt_cmp (od_ne C) (wd_sliceT (POl := (· = none)) (POh := (· = some ((1 : Nat) : Int))) (wd_var C lk4 mm4 ⟨_, rfl, ?_⟩) (wo_none rfl) (wo_some (wd_int ⟨_, rfl, rfl⟩)))))
    rintro _ _ rfl rfl
    rw [cutD_take]
    refine wd_tup (wa_cons (wd_var C lk2 mm2 (wa_nil ⟨ln1, _, _, isK_T _, isK_T [start], _, rfl, ?_⟩)))
    rw [dec_T]
    refine ite_ndec (fun h1 => ?_) (fun h1 => by rw [decide_eq_false h1]; rfl)
    rw [decide_eq_true h1, Bool.true_and]
    refine ww_or1 (wt_cmp od_notN (wd_fn Tw (by omega) C mm0 (wa_cons (wd_var C lk0 mm0 (wa_cons (wd_op od_cat (wd_var C lk3 mm3 (wd_var C lk4 mm4 ⟨_, _, rfl, rfl, le_line (by simp only [List.length_map]; omega), wa_nil ⟨rfl, p, a ++ b, by rw [app_eq2], ok, wd_non ⟨rfl, _, rfl, by rw [eO_isN]⟩⟩⟩))))))))
  · cases e1 : decide (b.take 1 = [start]) with
    | false =>
      rw [e1] at h
      exact ite_t (wb_one (ws_ret (wd_bl h)))
    | true =>
      rw [e1, Bool.true_and] at h
      rw [Bool.true_and]
      cases e2 : (p.wrongAt (a ++ b)).isNone with
      | false =>
        rw [e2] at h
        exact ite_t (wb_one (ws_ret (wd_bl h)))
      | true =>
        rw [e2, Bool.true_and] at h
        have hx := wrongGo_lt (Option.isNone_iff_eq_none.mp e2)
        refine ite_f (wb_nil ?_)
        exact wb_one (ws_ret (wd_not (wd_fn Tf (by omega) C mm1 (wa_cons (wd_var C lk0 mm0 (wa_cons (wd_var C lk1 mm1 (wa_cons (wd_var C lk3 mm3 (wa_cons (wd_var C lk4 mm4 (wa_nil ⟨rfl, p, j, a, b, rfl, ok, fun x hx' => hx x (List.mem_append_left _ hx'), fun x hx' => hx x (List.mem_append_right _ hx'), la, lb, _, rfl, h⟩))))))))))))
end
end W3
end
section
set_option Elab.async false
set_option linter.all false
set_option maxRecDepth 100000
set_option maxHeartbeats 1000000
/-! XB: the law's walks: all_texts, fewest. -/
namespace Pl.Plan
variable (p : Plan)
def kid (t : List Nat) (s : Nat) : Bool := (p.wrongAt (t ++ [s])).isNone
def kids (t : List Nat) : List (List Nat) := ((List.range p.n).filter (p.kid t)).map fun s => t ++ [s]
def lvl : Nat → List (List Nat)
  | 0 => [[]]
  | m + 1 => (lvl m).flatMap p.kids
def texts : Nat → List (List Nat)
  | 0 => [[]]
  | m + 1 => texts m ++ p.lvl (m + 1)
end Pl.Plan
namespace W3
open PySem PySem.Spec PyProof.Rows L2 Pl
theorem kids_len {p : Plan} (ok : p.Ok) (t : List Nat) : (p.kids t).length ≤ 4 := by
  unfold Plan.kids
  rw [List.length_map]
  exact Nat.le_trans (List.length_filter_le _ _) (by rw [List.length_range]; exact ok.few)
theorem flat_len {p : Plan} (ok : p.Ok) : ∀ (ts : List (List Nat)), (ts.flatMap p.kids).length ≤ 4 * ts.length
  | [] => Nat.zero_le _
  | t :: ts => by
    rw [List.flatMap_cons, List.length_append, List.length_cons]
    have := kids_len ok t
    have := flat_len ok ts
    omega
theorem lvl_len {p : Plan} (ok : p.Ok) : ∀ m, (p.lvl m).length ≤ 4 ^ m
  | 0 => Nat.le_refl _
  | m + 1 => by
    have h1 := flat_len ok (p.lvl m)
    have h2 := lvl_len ok m
    have h3 : (p.lvl (m + 1)).length ≤ 4 * (p.lvl m).length := h1
    rw [Nat.pow_succ]; omega
theorem texts_len {p : Plan} (ok : p.Ok) : ∀ m, (p.texts m).length ≤ 2 * 4 ^ m
  | 0 => by show 1 ≤ _; decide
  | m + 1 => by
    have h1 := lvl_len ok (m + 1)
    have h2 := texts_len ok m
    show (p.texts m ++ p.lvl (m + 1)).length ≤ _
    rw [List.length_append]
    rw [Nat.pow_succ] at h1 ⊢; omega
theorem lvl_mem {p : Plan} : ∀ {m : Nat} {t : List Nat}, t ∈ p.lvl m → t.length = m ∧ p.wrongAt t = none
  | 0, t, h => by
    have : t = [] := List.mem_singleton.mp h
    rw [this]; exact ⟨rfl, rfl⟩
  | m + 1, t, h => by
    obtain ⟨u, hu, h⟩ := List.mem_flatMap.mp h
    obtain ⟨s, hs, rfl⟩ := List.mem_map.mp h
    obtain ⟨_, hs⟩ := List.mem_filter.mp hs
    refine ⟨?_, Option.isNone_iff_eq_none.mp hs⟩
    rw [List.length_append, (lvl_mem hu).1]; rfl
theorem texts_mem {p : Plan} : ∀ {m : Nat} {t : List Nat}, t ∈ p.texts m → t.length ≤ m ∧ p.wrongAt t = none
  | 0, t, h => by
    have : t = [] := List.mem_singleton.mp h
    rw [this]; exact ⟨Nat.le_refl _, rfl⟩
  | m + 1, t, h => by
    rcases List.mem_append.mp h with h | h
    · have := texts_mem h; exact ⟨by omega, this.2⟩
    · have := lvl_mem h; exact ⟨by omega, this.2⟩
section
variable {M : Md} {CT CS CB : Addr} {f : Addr} {fd : FuncData}
/-! _law_all_texts -/
def nLTexts : List Str := ["_law_plan", "_law_most", "_law_found", "_law_row", "_law_turn", "_law_late", "_law_text_here", "_law_sign"]
def cLTexts : Ct := fun ds R => ∃ (p : Plan) (m : Nat), ds = [planD p, eN m] ∧ p.Ok ∧ m ≤ 4 ∧ R (.lst ((p.texts m).map eT))
theorem ok_ltexts (fx : Fx M CT CS CB) (Tw : M.Fn "_law_wrong_at" 5 2 cLWrong) (Fd : FunD M.K "_law_all_texts" "_law_all_texts" (defArgs (top 64)) (defBody (top 64)) (defScope (top 64)) [] [] f fd) : FnOk M.P M.w M.K M.mg M.base CX0 6 f fd ["_law_plan", "_law_most"] (spC M.P M.w M.K 2 cLTexts) := by
  refine fn_ok (N := nLTexts) nLTexts nLTexts ["range", "len", "_law_wrong_at"] Fd (C8.fnScope_by (by decide +kernel)) rfl (by decide +kernel) (by decide +kernel) (by decide +kernel) fun q F0 H0 C ds R hl h => ?_
  obtain ⟨p, m, rfl, ok, hm, h⟩ := h
  have hn4 : p.n ≤ 4 := ok.few
  have l1 : (defScope (top 64)).names.lookup ("_law_found" : Str) = some .local := by decide +kernel
  have l2 : (defScope (top 64)).names.lookup ("_law_row" : Str) = some .local := by decide +kernel
  refine wb_cons (ws_par2 C lk2 lk3 (by decide) l1 l2 (wv_d (wd_fresh (wf_lst (wa_cons (wd_tup (wa_nil ⟨Nat.zero_le _, wa_nil ⟨ln1, wv_d (wd_fresh (wf_lst (wa_cons (wd_tup (wa_nil ⟨Nat.zero_le _, wa_nil ⟨ln1, _, _, pt2, pt3, ?_⟩⟩)))))⟩⟩)))))) rfl)
  refine wb_cons (ws_for (ns := [4]) C (wi_range C mm0 fx.n_range (wd_var C lk1 mm1 ⟨m, rfl, by omega, fun i ρ' => i ≤ m ∧ ∃ s4 s5 s6 s7 : Sl, ρ' = [.d (planD p), .d (eN m), .d (.lst ((p.texts i).map eT)), .d (.lst ((p.lvl i).map eT)), s4, s5, s6, s7], ⟨Nat.zero_le _, _, _, _, _, rfl⟩, ?_, ?_⟩)))
  · rintro ρ' ⟨_, s4, s5, s6, s7, rfl⟩
    rw [upto_length]
    exact wb_one (ws_ret (wd_var C lk2 mm2 h))
  · rintro i d ρ1 ed ⟨_, s4, s5, s6, s7, rfl⟩
    have hi : i < m := by have := (List.getElem?_eq_some_iff.mp ed).1; rwa [upto_length] at this
    have hll : (p.lvl i).length ≤ 256 := Nat.le_trans (lvl_len ok i) (by have : 4 ^ i ≤ 4 ^ 4 := Nat.pow_le_pow_right (by omega) (by omega); omega)
    have htl : (p.texts i).length ≤ 512 := Nat.le_trans (texts_len ok i) (by have : 4 ^ i ≤ 4 ^ 4 := Nat.pow_le_pow_right (by omega) (by omega); omega)
    have hlm : ∀ t ∈ p.lvl i, t.length = i := fun t ht => (lvl_mem ht).1
    refine wg_name C lk4 mm4 pt4 ?_
    refine wb_cons (ws_set C lk5 mm5 (wv_f (wf_lst (wa_nil ⟨Nat.zero_le _, _, pt5, ?_⟩))))
    refine wb_cons (ws_for (ns := [6]) C (wi_lst (wd_var C lk3 mm3 ⟨_, rfl, fun k ρ' => ∃ s6 s7 : Sl, ρ' = [.d (planD p), .d (eN m), .d (.lst ((p.texts i).map eT)), .d (.lst ((p.lvl i).map eT)), .d d, .own ((((p.lvl i).take k).flatMap p.kids).map eT), s6, s7], ⟨_, _, rfl⟩, ?_, ?_⟩)))
    · rintro ρ' ⟨s6', s7', rfl⟩
      rw [List.length_map, List.take_length]
      refine wb_frzL pt5 pt5 ?_
      have hfl := flat_len ok (p.lvl i)
      refine wb_one (ws_par2 C lk2 lk3 (by decide) l1 l2 (wv_d (wd_op od_catL (wd_var C lk2 mm2 (wd_var C lk5 mm5 ⟨_, _, rfl, rfl, le_line (by rw [List.length_map, List.length_map]; omega), wv_d (wd_var C lk5 mm5 ⟨_, _, pt2, pt3, ?_⟩)⟩)))) rfl)
      refine ⟨by omega, .d d, .d (.lst (((p.lvl i).flatMap p.kids).map eT)), s6', s7', ?_⟩
      show _ = [_, _, Sl.d (D.lst ((p.texts i ++ p.lvl (i + 1)).map eT)), _, _, _, _, _]
      rw [List.map_append]; rfl
    · rintro k e ρ1 ee ⟨s6', s7', rfl⟩
      have hk : k < (p.lvl i).length := by have := (List.getElem?_eq_some_iff.mp ee).1; rwa [List.length_map] at this
      rw [List.getElem?_map, List.getElem?_eq_getElem hk] at ee
      cases ee
      have htk : (p.lvl i)[k].length = i := hlm _ (List.getElem_mem hk)
      have et : ((p.lvl i).take (k + 1)).flatMap p.kids = ((p.lvl i).take k).flatMap p.kids ++ p.kids (p.lvl i)[k] := by
        rw [List.take_succ, List.getElem?_eq_getElem hk, Option.toList_some, List.flatMap_append, List.flatMap_singleton]
      have hgl := flat_len ok ((p.lvl i).take k)
      rw [List.length_take] at hgl
      dsimp only
      rw [et]
      generalize ((p.lvl i).take k).flatMap p.kids = G at hgl ⊢
      generalize (p.lvl i)[k] = t at htk ⊢
      refine wg_name C lk6 mm6 pt6 ?_
      refine wb_one (ws_for (ns := [7]) C (wi_range C mm0 fx.n_range (wd_callB cd_lenT C mm1 fx.n_len b_len (wa_cons (wd_ix xd_tup (wd_var C lk0 mm0 (wd_int ⟨_, _, _, rfl, rfl, at_0, wa_nil ⟨_, rfl, p.n, by rw [List.length_map]; rfl, by omega, fun s ρ' => s ≤ p.n ∧ ∃ s7 : Sl, ρ' = [.d (planD p), .d (eN m), .d (.lst ((p.texts i).map eT)), .d (.lst ((p.lvl i).map eT)), .d d, .own ((G ++ ((List.range s).filter (p.kid t)).map fun s => t ++ [s]).map eT), .d (eT t), s7], ⟨Nat.zero_le _, _, by rw [show (List.range 0) = [] from rfl, List.filter_nil, List.map_nil, List.append_nil]⟩, ?_, ?_⟩⟩)))))))
      · rintro ρ' ⟨_, s7', rfl⟩
        rw [upto_length]
        exact ⟨_, _, rfl⟩
      · rintro s e ρ1 ee ⟨_, s7', rfl⟩
        have hs : s < p.n := by have := (List.getElem?_eq_some_iff.mp ee).1; rwa [upto_length] at this
        rw [upto_get hs] at ee
        cases ee
        have es : (List.range (s + 1)).filter (p.kid t) = (List.range s).filter (p.kid t) ++ (if p.kid t s then [s] else []) := by
          rw [List.range_succ, List.filter_append]
          cases e : p.kid t s <;> simp [e]
        have hfl : ((List.range s).filter (p.kid t)).length ≤ s := Nat.le_trans (List.length_filter_le _ _) (by rw [List.length_range]; omega)
        dsimp only
        rw [es]
        refine wg_name C lk7 mm7 pt7 ?_
        have hts : t.length + 1 ≤ sizeLine := le_line (by omega)
        refine wb_one (ws_if (wt_cmp od_isN (wd_fn Tw (by omega) C mm2 (wa_cons (wd_var C lk0 mm0 (wa_cons (wd_op od_cat (wd_var C lk6 mm6 (wd_tup (wa_cons (wd_var C lk7 mm7 (wa_nil ⟨ln1, _, _, rfl, rfl, by rw [List.length_map]; exact hts, wa_nil ⟨rfl, p, t ++ [s], by rw [show [eN s] = [s].map eN from rfl, app_eq2], ok, wd_non ⟨rfl, _, rfl, ?_⟩⟩⟩))))))))))))
        rw [eO_isN]
        show if p.kid t s = true then _ else _
        cases ek : p.kid t s with
        | false =>
          refine ite_f (wb_nil ⟨by omega, .d (eN s), ?_⟩)
          rw [if_neg Bool.false_ne_true, List.append_nil]
        | true =>
          refine ite_t ?_
          refine wb_one (ws_append C lk5 mm5 (wd_op od_cat (wd_var C lk6 mm6 (wd_tup (wa_cons (wd_var C lk7 mm7 (wa_nil ⟨ln1, _, _, rfl, rfl, by rw [List.length_map]; exact hts, by have := line_big; rw [List.length_map, List.length_append, List.length_map]; omega, _, pt5, by omega, .d (eN s), ?_⟩)))))))
          rw [if_pos rfl]
          have e1 : D.tup (t.map eN ++ [eN s]) = eT (t ++ [s]) := app_eq2 (xs := t) (ys := [s])
          simp only [List.map_append, List.map_cons, List.map_nil, List.append_assoc]
          rw [e1]
end
end W3
end
section
set_option Elab.async false
set_option linter.all false
set_option maxRecDepth 100000
set_option maxHeartbeats 1000000
/-! XC: the law's walks: fewest. -/
namespace Pl.Plan
variable (p : Plan)
def cutBad (j : Bool) (start : Nat) (t : List Nat) (a : Nat) : Bool := decide (t.getD a 0 = start) && !p.lawFine j (t.take a) (t.drop a)
def textBad (j : Bool) (start : Nat) (t : List Nat) : Bool := (List.range t.length).any (p.cutBad j start t)
def fewest (j : Bool) (start : Nat) (ts : List (List Nat)) : Option Nat := (ts.find? (p.textBad j start)).map List.length
end Pl.Plan
namespace W3
open PySem PySem.Spec PyProof.Rows L2 Pl
section
variable {M : Md} {CT CS CB : Addr} {f : Addr} {fd : FuncData}
/-! _law_fewest -/
def nLFewest : List Str := ["_law_plan", "_law_way", "_law_start", "_law_texts", "_law_text_here", "_law_at"]
def cLFewest : Ct := fun ds R => ∃ (p : Plan) (j : Bool) (start : Nat) (ts : List (List Nat)), ds = [planD p, wayD j, eN start, .lst (ts.map eT)] ∧ p.Ok ∧ (∀ t ∈ ts, t.length ≤ 15000 ∧ ∀ x ∈ t, x < p.n) ∧ R (eO (p.fewest j start ts))
theorem ok_lfewest (fx : Fx M CT CS CB) (Tf : M.Fn "_law_is_fine" 7 4 cLFine) (Fd : FunD M.K "_law_fewest" "_law_fewest" (defArgs (top 65)) (defBody (top 65)) (defScope (top 65)) [] [] f fd) : FnOk M.P M.w M.K M.mg M.base CX0 8 f fd ["_law_plan", "_law_way", "_law_start", "_law_texts"] (spC M.P M.w M.K 4 cLFewest) := by
  refine fn_ok (N := nLFewest) nLFewest nLFewest ["range", "len", "_law_is_fine"] Fd (C8.fnScope_by (by decide +kernel)) rfl (by decide +kernel) (by decide +kernel) (by decide +kernel) fun q F0 H0 C ds R hl h => ?_
  obtain ⟨p, j, start, ts, rfl, ok, hts, h⟩ := h
  refine wb_cons (ws_for (ns := [4]) C (wi_lst (wd_var C lk3 mm3 ⟨_, rfl, fun i ρ' => ∃ s4 s5 : Sl, ρ' = [.d (planD p), .d (wayD j), .d (eN start), .d (.lst (ts.map eT)), s4, s5] ∧ p.fewest j start (ts.drop i) = p.fewest j start ts, ⟨_, _, rfl, rfl⟩, ?_, ?_⟩)))
  · rintro ρ' ⟨s4, s5, rfl, e⟩
    rw [List.length_map, List.drop_length] at e
    rw [← e] at h
    exact wb_one (ws_ret (wd_non h))
  · rintro i d ρ1 ed ⟨s4, s5, rfl, e⟩
    have hi : i < ts.length := by have := (List.getElem?_eq_some_iff.mp ed).1; rwa [List.length_map] at this
    rw [List.getElem?_map, List.getElem?_eq_getElem hi] at ed
    cases ed
    have ht := hts _ (List.getElem_mem hi)
    rw [drop_at hi] at e
    dsimp only
    generalize ts[i] = t at ht e ⊢
    obtain ⟨htl, htx⟩ := ht
    have e : ((t :: ts.drop (i + 1)).find? (p.textBad j start)).map List.length = p.fewest j start ts := e
    rw [List.find?_cons] at e
    refine wg_name C lk4 mm4 pt4 ?_
    refine wb_one (ws_for (ns := [5]) C (wi_range C mm0 fx.n_range (wd_callB cd_lenT C mm1 fx.n_len b_len (wa_cons (wd_var C lk4 mm4 (wa_nil ⟨_, rfl, t.length, by rw [List.length_map], by omega, fun a ρ' => ∃ s5 : Sl, ρ' = [.d (planD p), .d (wayD j), .d (eN start), .d (.lst (ts.map eT)), .d (eT t), s5] ∧ (List.range a).any (p.cutBad j start t) = false, ⟨_, rfl, rfl⟩, ?_, ?_⟩))))))
    · rintro ρ' ⟨s5', rfl, e2⟩
      rw [upto_length] at e2
      have e2 : p.textBad j start t = false := e2
      rw [e2] at e
      exact ⟨_, _, rfl, e⟩
    · rintro a d ρ1 ed ⟨s5', rfl, e2⟩
      have ha : a < t.length := by have := (List.getElem?_eq_some_iff.mp ed).1; rwa [upto_length] at this
      rw [upto_get ha] at ed
      cases ed
      refine wg_name C lk5 mm5 pt5 ?_
      refine wb_one (ws_if (wt_eq (p.cutBad j start t a) ?_ ?_))
      · unfold Plan.cutBad
        refine wt_w (ww_and (wt_cmp (od_eq C) (wd_ix xd_tup (wd_var C lk4 mm4 (wd_var C lk5 mm5 ⟨_, _, _, rfl, rfl, at_N ha, wd_var C lk2 mm2 ⟨_, _, isK_N _, isK_N _, _, rfl, ?_⟩⟩)))))
        rw [dec_N]
        refine ite_dec (fun h1 => ?_) (fun h1 => by rw [decide_eq_false h1]; rfl)
        rw [decide_eq_true h1, Bool.true_and]
        refine ww_and1 (wt_not (wt_val (wd_fn Tf (by omega) C mm2 (wa_cons (wd_var C lk0 mm0 (wa_cons (wd_var C lk1 mm1 (wa_cons (wd_sliceT (POl := (· = none)) (POh := (· = some (a : Int))) (wd_var C lk4 mm4 ⟨_, rfl, ?_⟩) (wo_none rfl) (wo_some (wd_var C lk5 mm5 ⟨_, rfl, rfl⟩)))))))))))
        rintro _ _ rfl rfl
        refine wa_cons (wd_sliceT (POl := (· = some (a : Int))) (POh := (· = none)) (wd_var C lk4 mm4 ⟨_, rfl, ?_⟩) (wo_some (wd_var C lk5 mm5 ⟨_, rfl, rfl⟩)) (wo_none rfl))
        rintro _ _ rfl rfl
        rw [cutD_take, cutD_drop]
        exact wa_nil ⟨rfl, p, j, t.take a, t.drop a, rfl, ok, fun x hx => htx x (List.mem_of_mem_take hx), fun x hx => htx x (List.mem_of_mem_drop hx), by rw [List.length_take]; omega, by rw [List.length_drop]; omega, _, rfl, rfl⟩
      · refine ite_b (fun ec => ?_) (fun ec => wb_nil ?_)
        · have eb : p.textBad j start t = true := List.any_eq_true.mpr ⟨a, List.mem_range.mpr ha, ec⟩
          rw [eb] at e
          have e : some t.length = p.fewest j start ts := e
          rw [← e] at h
          exact wb_one (ws_ret (wd_callB cd_lenT C mm1 fx.n_len b_len (wa_cons (wd_var C lk4 mm4 (wa_nil ⟨_, rfl, by rw [List.length_map]; exact h⟩)))))
        · refine ⟨_, rfl, ?_⟩
          rw [List.range_succ, List.any_append, e2]
          simp [ec]
end
end W3
end
section
set_option Elab.async false
set_option linter.all false
set_option maxRecDepth 100000
set_option maxHeartbeats 1000000
/-! XD: the law's walks: take. -/
namespace W3
open PySem PySem.Spec PyProof.Rows L2 Pl
theorem isL_I (ns : List Int) : IsL (.lst (ns.map D.int)) (ns.map NestedKey.num) := by
  refine ⟨?_, ?_, ?_⟩
  · rw [ofKs_map, List.map_map]
    congr 1
  · intro k hk
    obtain ⟨i, _, rfl⟩ := List.mem_map.mp hk
    simp only [NestedKey.depth]; omega
  · intro k hk
    obtain ⟨i, _, rfl⟩ := List.mem_map.mp hk
    rfl
theorem reps_I {P : Program} {w : World} {K : PySem.W.Frag} {F : Hp} : ∀ (ns : List Int), Reps P w K F (ns.map D.int) (ns.map V.int)
  | [] => .nil
  | i :: ns => .cons (.int i) (reps_I ns)
section
variable {X : Cx} {F0 H0 : Hp} {ρ : Rho} {N L A G : List Str} {k : Nat} {P : D → Prop}
/-- int(x.pop(0)) % y if x != [] else 0 -/
theorem wd_draw {x y : Str} {n i m j j2 : Nat} {p1 p2 p3 p4 p5 apos p6 cpos p7 p8 p9 p10 pos : Pos} (C : Cxt X N L A G k) (lx : Lk N ρ x n (.d .dr)) (mx : x ∈ L) (ly : Lk N ρ y i (.d (eN m))) (my : y ∈ L) (mi : ("int" : Str) ∈ G) (hmi : X.mg "int" = none) (hm : 0 < m) (h : ∀ r < m, P (eN r))
    (hbase : attributeBase (.Name x p5) "pop" X.env (eval (.Name x p5) X.env) = eval (.Name x p5) X.env := by rfl)
    (hfew : ((backTo cpos (starEach [.Constant (.int 0) j p6] X.env)).all (fun x => !x.1) && (backToKw cpos (keywordEach [] X.env)).all (fun x => x.1.isSome)
      && decide ([Expr.Constant (.int 0) j p6].length + ([] : List Keyword).length + (if ([] : List Keyword).isEmpty then 0 else 1) < 30)) = true := by rfl)
    (hline : (apos.endLine == cpos.line) = true := by rfl) (hs : starEach [.Constant (.int 0) j p6] X.env = (false, eval (.Constant (.int 0) j p6) X.env) :: starEach [] X.env := by rfl) (hplain : (backTo cpos (starEach [] X.env)).any (·.1) = false := by rfl)
    (he : starEach [.Call (.Attribute (.Name x p5) "pop" apos) [.Constant (.int 0) j p6] [] cpos] X.env = (false, eval (.Call (.Attribute (.Name x p5) "pop" apos) [.Constant (.int 0) j p6] [] cpos) X.env) :: starEach [] X.env := by rfl)
    (hpl : (backTo p7 (starEach [] X.env)).any (·.1) = false := by rfl) :
    WD X F0 H0 ρ (.IfExp (.Compare (.Name x p1) [.NotEq] [.List [] p2] p3) (.BinOp (.Call (.Name "int" p4) [.Call (.Attribute (.Name x p5) "pop" apos) [.Constant (.int 0) j p6] [] cpos] [] p7) .Mod (.Name y p8) p9) (.Constant (.int 0) j2 p10) pos) P := fun σ F H Q E kk => by
  obtain ⟨gl, g1, g2⟩ := C.glo _ mi
  obtain ⟨vis, v1, v2⟩ := C.loc x mx
  obtain ⟨wis, w1, w2⟩ := C.loc y my
  obtain ⟨v, e1, r⟩ := E.dat n _ lx.r
  obtain ⟨w, e2, r2⟩ := E.dat i _ ly.r
  cases r2
  cases r with
  | @dr p hq =>
    have vx : ∀ q : Pos, PE X (.Name x q) (tVar n) := fun q => pe_var (by rw [C.hN]; exact lx.n) vis v1 v2
    have vy : ∀ q : Pos, PE X (.Name y q) (tVar i) := fun q => pe_var (by rw [C.hN]; exact ly.n) wis w1 w2
    refine run_pe (pe_open p (pe_ifExp (pt_cmpR (op_neD C.u64) (vx _) (pe_lst pa_nil) rfl) (pe_op op_mod (pe_callTy call_int1 gl hmi (by decide +kernel) (pa_cons (pe_bm PySem.F.plainAttrs_list PySem.F.slot_list_pop PySem.F.type_list_pop mt_popAt (vx _) (pa_cons pe_int pa_nil hs) hbase hfew hline hs hplain) pa_nil he) g2 g1 he hpl) (vy _)) pe_int)) ?_
    have hH := E.sub _ _ hq
    refine ⟨hH, fun ns => ⟨.ref p, e1, Nat.zero_le _, fun q hq0 => ?_⟩⟩
    have ne : q ≠ p := fun z => by rw [z, upd_same] at hq0; cases hq0
    have hpq : upd (upd H p (.lst (ns.map V.int))) q (.lst []) p = some (.lst (ns.map V.int)) := by rw [upd_ne (Ne.symm ne)]; exact upd_same
    have s1 : Same (upd (upd H p (.lst (ns.map V.int))) q (.lst [])) (upd (upd H p (.lst (ns.map V.int))) q (.lst [])) := Same.refl _
    refine ⟨_, _, repl_dp s1 (isL_I ns) (.lst hpq (reps_I ns)), repl_dp s1 isL_nil (.lst upd_same .nil), (isL_I ns).shaped, isL_nil.shaped, ?_⟩
    have e : PyData.eqv (.list (NestedKey.datas (ns.map NestedKey.num))) (.list (NestedKey.datas [])) = decide (ns.map NestedKey.num = []) := by
      simp only [PyData.eqv]
      rw [keys_eqv]
      have q := NestedKey.decide_eq (.tup (ns.map NestedKey.num)) (.tup [])
      simp only [NestedKey.beq] at q
      rw [← q]
      simp
    rw [e]
    have hb : ∀ (A : HO) (B : HO), upd (upd (upd H p A) q B) p (anyL p) = upd H q B := fun A B => by
      funext b
      by_cases h1 : b = p
      · rw [h1, upd_same, upd_ne (Ne.symm ne), hH]
      · rw [upd_ne h1]
        by_cases h2 : b = q
        · rw [h2, upd_same, upd_same]
        · rw [upd_ne h2, upd_ne h2, upd_ne h1]
    have hb2 : ∀ (A A2 : HO) (B : HO), upd (upd (upd (upd H p A) q B) p A2) p (anyL p) = upd H q B := fun A A2 B => by
      funext b
      by_cases h1 : b = p
      · rw [h1, upd_same, upd_ne (Ne.symm ne), hH]
      · rw [upd_ne h1, upd_ne h1]
        by_cases h2 : b = q
        · rw [h2, upd_same, upd_same]
        · rw [upd_ne h2, upd_ne h2, upd_ne h1]
    have hq1 : H q = none := by rwa [upd_ne ne] at hq0
    have st : Stp F H F (upd H q (.lst [])) := Stp.newO E.sub hq1
    cases ns with
    | nil =>
      refine ⟨false, rfl, ?_⟩
      refine ⟨[], hpq, ?_⟩
      rw [hb]
      exact kk (eN 0) _ F _ (h 0 hm) st (.int 0)
    | cons a ns =>
      refine ⟨true, rfl, ?_⟩
      refine ⟨.ref p, e1, .inl ⟨rfl, _, SqL.of hpq⟩, p, _, 0, 0, .int a, rfl, rfl, hpq, by decide, by decide, ?_, rfl, ?_⟩
      · rw [seqIndex_of (by omega) (by simp)]; rfl
      · refine .inl ⟨a, rfl, _, e2, a, m, rfl, rfl, by omega, ns, upd_same, ?_⟩
        rw [hb2]
        have hn : 0 ≤ a % (m : Int) := Int.emod_nonneg _ (by omega)
        have hlt : a % (m : Int) < m := Int.emod_lt_of_pos _ (by omega)
        have er : a % (m : Int) = ((a % (m : Int)).toNat : Int) := by omega
        refine kk (eN (a % (m : Int)).toNat) _ F _ (h _ (by omega)) st ?_
        have hd : eN (a % (m : Int)).toNat = .int (a % (m : Int)) := congrArg D.int er.symm
        rw [hd]
        exact .int _
end
section
variable {M : Md} {CT CS CB : Addr} {f : Addr} {fd : FuncData}
/-! _law_take -/
def cLTake : Ct := fun ds R => ∃ m : Nat, ds = [.dr, eN m] ∧ 0 < m ∧ ∀ r < m, R (eN r)
theorem ok_ltake (fx : Fx M CT CS CB) (Fd : FunD M.K "_law_take" "_law_take" (defArgs (top 49)) (defBody (top 49)) (defScope (top 49)) [] [] f fd) : FnOk M.P M.w M.K M.mg M.base CX0 1 f fd ["_law_draws", "_law_many"] (spC M.P M.w M.K 2 cLTake) := by
  refine fn_ok (N := ["_law_draws", "_law_many"]) ["_law_draws", "_law_many"] ["_law_draws", "_law_many"] ["int"] Fd (C8.fnScope_by (by decide +kernel)) rfl (by decide +kernel) (by decide +kernel) (by decide +kernel) fun q F0 H0 C ds R hl h => ?_
  obtain ⟨m, rfl, hm, h⟩ := h
  exact wb_one (ws_ret (wd_draw C lk0 mm0 lk1 mm1 mm0 fx.n_int hm h))
/-! _law_pick, of a list -/
def cLPick : Ct := fun ds R => ∃ xs : List Nat, ds = [.dr, .lst (xs.map eN)] ∧ 0 < xs.length ∧ ∀ x ∈ xs, R (eN x)
theorem ok_lpick (fx : Fx M CT CS CB) (Tt : M.Fn "_law_take" 1 2 cLTake) (Fd : FunD M.K "_law_pick" "_law_pick" (defArgs (top 51)) (defBody (top 51)) (defScope (top 51)) [] [] f fd) : FnOk M.P M.w M.K M.mg M.base CX0 2 f fd ["_law_draws", "_law_things"] (spC M.P M.w M.K 2 cLPick) := by
  refine fn_ok (N := ["_law_draws", "_law_things"]) ["_law_draws", "_law_things"] ["_law_draws", "_law_things"] ["_law_take", "len"] Fd (C8.fnScope_by (by decide +kernel)) rfl (by decide +kernel) (by decide +kernel) (by decide +kernel) fun q F0 H0 C ds R hl h => ?_
  obtain ⟨xs, rfl, hm, h⟩ := h
  refine wb_one (ws_ret (wd_ix xd_lst (wd_var C lk1 mm1 (wd_fn Tt (Nat.le_refl _) C mm0 (wa_cons (wd_var C lk0 mm0 (wa_cons (wd_callB cd_lenL C mm1 fx.n_len b_len (wa_cons (wd_var C lk1 mm1 (wa_nil ⟨_, rfl, wa_nil ⟨rfl, xs.length, by rw [List.length_map], hm, fun r hr => ⟨_, _, _, rfl, rfl, at_N hr, h _ (getD_mem hr)⟩⟩⟩)))))))))))
/-! _law_text -/
def nLText : List Str := ["_law_draws", "_law_plan", "_law_many", "_law_found", "_law_turn", "_law_late"]
def cLText : Ct := fun ds R => ∃ (p : Plan) (m : Nat), ds = [.dr, planD p, eN m] ∧ p.Ok ∧ m ≤ 100 ∧ ∀ xs : List Nat, xs.length ≤ m → p.wrongAt xs = none → R (eT xs)
theorem ok_ltext (fx : Fx M CT CS CB) (Tt : M.Fn "_law_take" 1 2 cLTake) (Tw : M.Fn "_law_wrong_at" 5 2 cLWrong) (Fd : FunD M.K "_law_text" "_law_text" (defArgs (top 59)) (defBody (top 59)) (defScope (top 59)) [] [] f fd) : FnOk M.P M.w M.K M.mg M.base CX0 6 f fd ["_law_draws", "_law_plan", "_law_many"] (spC M.P M.w M.K 3 cLText) := by
  refine fn_ok (N := nLText) nLText nLText ["range", "_law_take", "len", "_law_wrong_at"] Fd (C8.fnScope_by (by decide +kernel)) rfl (by decide +kernel) (by decide +kernel) (by decide +kernel) fun q F0 H0 C ds R hl h => ?_
  obtain ⟨p, m, rfl, ok, hm, h⟩ := h
  have hp : 0 < p.n := ok.pos
  refine wb_cons (ws_set C lk3 mm3 (wv_d (wd_tup (wa_nil ⟨Nat.zero_le _, _, pt3, ?_⟩))))
  refine wb_cons (ws_for (ns := [4]) C (wi_range C mm0 fx.n_range (wd_var C lk2 mm2 ⟨m, rfl, by omega, fun i ρ' => ∃ (xs : List Nat) (s4 s5 : Sl), ρ' = [.d .dr, .d (planD p), .d (eN m), .d (eT xs), s4, s5] ∧ xs.length ≤ i ∧ p.wrongAt xs = none, ⟨[], _, _, rfl, Nat.zero_le _, rfl⟩, ?_, ?_⟩)))
  · rintro ρ' ⟨xs, s4, s5, rfl, h1, h2⟩
    rw [upto_length] at h1
    exact wb_one (ws_ret (wd_var C lk3 mm3 (h xs h1 h2)))
  · rintro i d ρ1 ed ⟨xs, s4, s5, rfl, h1, h2⟩
    have hi : i < m := by have := (List.getElem?_eq_some_iff.mp ed).1; rwa [upto_length] at this
    refine wg_name C lk4 mm4 pt4 ?_
    refine wb_cons (ws_set C lk5 mm5 (wv_d (wd_op od_cat (wd_var C lk3 mm3 (wd_tup (wa_cons (wd_fn Tt (by omega) C mm1 (wa_cons (wd_var C lk0 mm0 (wa_cons (wd_callB cd_lenT C mm2 fx.n_len b_len (wa_cons (wd_ix xd_tup (wd_var C lk1 mm1 (wd_int ⟨_, _, _, rfl, rfl, at_0, wa_nil ⟨_, rfl, wa_nil ⟨rfl, p.n, by rw [List.length_map]; rfl, hp, fun r hr => wa_nil ⟨ln1, _, _, rfl, rfl, le_line (by simp only [List.length_map, List.length_cons, List.length_nil]; omega), _, pt5, ?_⟩⟩⟩⟩)))))))))))))))
    rw [show [eN r] = [r].map eN from rfl, app_eq2]
    refine wb_one (ws_set C lk3 mm3 (wv_d (wd_ifexp (wt_cmp od_isN (wd_fn Tw (by omega) C mm3 (wa_cons (wd_var C lk1 mm1 (wa_cons (wd_var C lk5 mm5 (wa_nil ⟨rfl, p, xs ++ [r], rfl, ok, wd_non ⟨rfl, _, rfl, ?_⟩⟩))))))))))
    rw [eO_isN]
    refine ite_b (fun e => ?_) (fun e => ?_)
    · exact wd_var C lk5 mm5 ⟨_, pt3, xs ++ [r], _, _, rfl, by rw [List.length_append]; simp only [List.length_cons, List.length_nil]; omega, Option.isNone_iff_eq_none.mp e⟩
    · exact wd_var C lk3 mm3 ⟨_, pt3, xs, _, _, rfl, by omega, h2⟩
end
end W3
end
section
set_option Elab.async false
set_option linter.all false
set_option maxRecDepth 100000
set_option maxHeartbeats 1000000
/-! XE: the law's walks: draw, cell_at, digits, pool. -/
namespace W3
open PySem PySem.Spec PyProof.Rows L2 Pl
def primes16 : List Int := [1000003, 1000033, 1000037, 1000039, 1000081, 1000099, 1000117, 1000121, 1000133, 1000151, 1000159, 1000171, 1000183, 1000187, 1000193, 1000199]
theorem at_prime (i : Nat) : ∃ v : Int, atI (primes16.map D.int) ((i : Int) % 16) = some (.int v) ∧ 0 < v := by
  have h : (i : Int) % 16 = ((i % 16 : Nat) : Int) := by omega
  rw [h]
  have hl : i % 16 < 16 := Nat.mod_lt _ (by omega)
  generalize i % 16 = k at hl
  have all : ∀ k < 16, ∃ v : Int, primes16[k]? = some v ∧ 0 < v := by
    intro k hk
    have hk' : k < primes16.length := hk
    refine ⟨primes16[k], List.getElem?_eq_getElem hk', ?_⟩
    have : ∀ x ∈ primes16, 0 < x := by decide
    exact this _ (List.getElem_mem hk')
  obtain ⟨v, hv, h0⟩ := all k hl
  refine ⟨v, ?_, h0⟩
  unfold atI ixN
  rw [List.length_map, if_pos (by omega), if_pos (by show _ < ((16 : Nat) : Int); omega), Int.toNat_natCast, Option.bind_some, List.getElem?_map, hv]; rfl
theorem bits_add {c d : Int} {B : Nat} (h : c.natAbs < 2 ^ B) (hd : d.natAbs < 524288) : (c + d).natAbs < 2 ^ (B + 20) := by
  rw [Nat.pow_add]
  have e : (2 : Nat) ^ 20 = 1048576 := by decide
  rw [e]
  have h1 : 0 < 2 ^ B := Nat.pow_pos (by omega)
  generalize 2 ^ B = x at h h1 ⊢
  omega
section
variable {M : Md} {CT CS CB : Addr} {f : Addr} {fd : FuncData}
/-! _law_draw -/
def nLDraw : List Str := ["_law_cell", "_law_k", "_law_many", "_law_primes"]
def cLDraw : Ct := fun ds R => ∃ (c : Int) (k : Nat) (m : Int), ds = [.int c, eN k, .int m] ∧ 0 < m ∧ ∀ r : Int, 0 ≤ r → r < m → R (.int r)
theorem ok_ldraw (fx : Fx M CT CS CB) (Fd : FunD M.K "_law_draw" "_law_draw" (defArgs (top 46)) (defBody (top 46)) (defScope (top 46)) [] [] f fd) : FnOk M.P M.w M.K M.mg M.base CX0 1 f fd ["_law_cell", "_law_k", "_law_many"] (spC M.P M.w M.K 3 cLDraw) := by
  refine fn_ok (N := nLDraw) nLDraw nLDraw ["int"] Fd (C8.fnScope_by (by decide +kernel)) rfl (by decide +kernel) (by decide +kernel) (by decide +kernel) fun q F0 H0 C ds R hl h => ?_
  obtain ⟨c, k, m, rfl, hm, h⟩ := h
  refine wb_cons (ws_set C lk3 mm3 (wv_d (wd_tup (wa_cons (wd_int (wa_cons (wd_int (wa_cons (wd_int (wa_cons (wd_int (wa_cons (wd_int (wa_cons (wd_int (wa_cons (wd_int (wa_cons (wd_int (wa_cons (wd_int (wa_cons (wd_int (wa_cons (wd_int (wa_cons (wd_int (wa_cons (wd_int (wa_cons (wd_int (wa_cons (wd_int (wa_cons (wd_int (wa_nil ⟨le_line (by show 16 ≤ 1000000; decide), _, pt3, ?_⟩))))))))))))))))))))))))))))))))))))
  obtain ⟨v, hv, h0⟩ := at_prime k
  refine wb_one (ws_ret (wd_op od_mod (wd_op od_mod (wd_callTy cd_int C mm0 fx.n_int b_int (wa_cons (wd_op od_add (wd_op od_mul (wd_var C lk0 mm0 (wd_int ⟨_, _, rfl, rfl, .inr ⟨by decide, by decide⟩, wd_op od_mul (wd_var C lk1 mm1 (wd_int ⟨_, _, rfl, rfl, .inr ⟨by decide, by decide⟩, _, _, rfl, rfl, wa_nil ⟨_, rfl, ?_⟩⟩))⟩)))))))))
  refine wd_ix xd_tup (wd_var C lk3 mm3 (wd_op od_mod (wd_var C lk1 mm1 (wd_int ⟨_, _, rfl, rfl, by decide, _, _, _, rfl, rfl, hv, _, _, rfl, rfl, h0, wd_var C lk2 mm2 ⟨_, _, rfl, rfl, hm, h _ (Int.emod_nonneg _ (by omega)) (Int.emod_lt_of_pos _ hm)⟩⟩))))
/-! _law_cell_at -/
def cLCell : Ct := fun ds R => ∃ (ns : List Int) (k B : Nat), ds = [.lst (ns.map D.int), eN k] ∧ (∀ x ∈ ns, x.natAbs < 2 ^ B) ∧ 20 ≤ B ∧ ∀ c : Int, c.natAbs < 2 ^ B → R (.int c)
theorem ok_lcell (fx : Fx M CT CS CB) (Td : M.Fn "_law_draw" 1 3 cLDraw) (Fd : FunD M.K "_law_cell_at" "_law_cell_at" (defArgs (top 47)) (defBody (top 47)) (defScope (top 47)) [] [] f fd) : FnOk M.P M.w M.K M.mg M.base CX0 2 f fd ["_law_script", "_law_k"] (spC M.P M.w M.K 2 cLCell) := by
  refine fn_ok (N := ["_law_script", "_law_k"]) ["_law_script", "_law_k"] ["_law_script", "_law_k"] ["len", "abs", "_law_draw", "sum"] Fd (C8.fnScope_by (by decide +kernel)) rfl (by decide +kernel) (by decide +kernel) (by decide +kernel) fun q F0 H0 C ds R hl h => ?_
  obtain ⟨ns, k, B, rfl, hns, hB, h⟩ := h
  refine wb_cons (ws_if (wt_cmp od_lt (wd_var C lk1 mm1 (wd_callB cd_lenL C mm0 fx.n_len b_len (wa_cons (wd_var C lk0 mm0 (wa_nil ⟨_, rfl, _, _, rfl, rfl, _, rfl, ?_⟩)))))))
  rw [List.length_map]
  refine ite_dec (fun h1 => ?_) (fun h1 => wb_nil ?_)
  · have hk : k < ns.length := by omega
    have ha : atI (ns.map D.int) (k : Int) = some (.int ns[k]) := by
      unfold atI ixN
      rw [List.length_map, if_pos (by omega), if_pos (by omega), Int.toNat_natCast, Option.bind_some, List.getElem?_map, List.getElem?_eq_getElem hk]; rfl
    have hn := hns _ (List.getElem_mem hk)
    refine wb_one (ws_ret (wd_callB cd_abs C mm1 fx.n_abs b_abs (wa_cons (wd_ix xd_lst (wd_var C lk0 mm0 (wd_var C lk1 mm1 ⟨_, _, _, rfl, rfl, ha, wa_nil ⟨_, rfl, h _ ?_⟩⟩))))))
    split
    · rw [Int.natAbs_neg]; exact hn
    · exact hn
  · refine wb_one (ws_ret (wd_fn Td (by omega) C mm2 (wa_cons (wd_op od_add (wd_callB cd_abs C mm1 fx.n_abs b_abs (wa_cons (wd_callB (cd_sum C) C mm3 fx.n_sum b_sum (wa_cons (wd_var C lk0 mm0 (wa_nil ⟨ns, rfl, wa_nil ⟨_, rfl, wd_op od_mul (wd_int (wd_var C lk1 mm1 ⟨_, _, rfl, rfl, .inl ⟨by decide, by decide⟩, _, _, rfl, rfl, wa_cons (wd_var C lk1 mm1 (wa_cons (wd_int (wa_nil ⟨rfl, _, _, _, rfl, by decide, fun r h0 h1 => h r ?_⟩))))⟩))⟩⟩))))))))))
    have hp : 2 ^ 20 ≤ 2 ^ B := Nat.pow_le_pow_right (by omega) hB
    have e : (2 : Nat) ^ 20 = 1048576 := by decide
    rw [e] at hp
    generalize 2 ^ B = x at hp ⊢
    omega
end
end W3
end
section
set_option Elab.async false
set_option linter.all false
set_option maxRecDepth 100000
set_option maxHeartbeats 1000000
/-! XF: the law's walks: digits, pool. -/
namespace W3
open PySem PySem.Spec PyProof.Rows L2 Pl
section
variable {X : Cx} {F0 H0 : Hp} {ρ : Rho} {a b : Expr} {PF : List D → Prop} {pos : Pos}
theorem wf_catL (h : WD X F0 H0 ρ a fun da => WD X F0 H0 ρ b fun db => ∃ xs ys, da = .lst xs ∧ db = .lst ys ∧ xs.length + ys.length ≤ sizeLine ∧ PF (xs ++ ys)) : WF X F0 H0 ρ (.BinOp a .Add b pos) PF := fun σ F H Q E kk => by
  refine run_pe (pe_op op_cat pe_run pe_run) ?_
  refine h σ F H _ E fun da x F1 H1 h1 s1 r1 => ?_
  refine h1 σ F1 H1 _ (E.stp s1) fun db y F2 H2 h2 s2 r2 => ?_
  obtain ⟨xs, ys, rfl, rfl, hl, p⟩ := h2
  have r1' := r1.mono s2.ff
  have st := s1.trans s2
  cases r1' with
  | @lst a vs _ e1 q1 =>
    cases r2 with
    | @lst b ws _ e2 q2 =>
      exact ⟨a, b, vs, ws, rfl, rfl, s2.sub _ _ e1, s2.sub _ _ e2, by rw [← q1.length, ← q2.length]; exact hl, fun q hq => kk _ q _ F2 _ p (st.trans (Stp.newO st.sub hq)) (st.free hq) (st.sub.free hq) upd_same (q1.append q2)⟩
end
section
variable {M : Md} {CT CS CB : Addr} {f : Addr} {fd : FuncData}
/-! _law_digits -/
def nLDigits : List Str := ["_law_script", "_law_at", "_law_many", "_law_base", "_law_cell", "_law_found", "_law_remaining", "_law_turn", "_law_blend", "_law_more"]
def cLDigits : Ct := fun ds R => ∃ (ns : List Int) (a m b B : Nat), ds = [.lst (ns.map D.int), eN a, eN m, eN b] ∧ (∀ x ∈ ns, x.natAbs < 2 ^ B) ∧ 20 ≤ B ∧ B ≤ 3000000 ∧ m ≤ 500 ∧ 0 < b ∧ b < 1073741824 ∧ ∀ is : List Int, is.length = m → R (.lst (is.map D.int))
theorem ok_ldigits (fx : Fx M CT CS CB) (Tc : M.Fn "_law_cell_at" 2 2 cLCell) (Td : M.Fn "_law_draw" 1 3 cLDraw) (Fd : FunD M.K "_law_digits" "_law_digits" (defArgs (top 48)) (defBody (top 48)) (defScope (top 48)) [] [] f fd) : FnOk M.P M.w M.K M.mg M.base CX0 3 f fd ["_law_script", "_law_at", "_law_many", "_law_base"] (spC M.P M.w M.K 4 cLDigits) := by
  refine fn_ok (N := nLDigits) nLDigits nLDigits ["_law_cell_at", "range", "int", "_law_draw"] Fd (C8.fnScope_by (by decide +kernel)) rfl (by decide +kernel) (by decide +kernel) (by decide +kernel) fun q F0 H0 C ds R hl h => ?_
  obtain ⟨ns, a, m, b, B, rfl, hns, hB, hB2, hm, hb, hb2, h⟩ := h
  have l1 : (defScope (top 48)).names.lookup ("_law_cell" : Str) = some .local := by decide +kernel
  have l2 : (defScope (top 48)).names.lookup ("_law_found" : Str) = some .local := by decide +kernel
  refine wb_cons (ws_par2 C lk4 lk5 (by decide) l1 l2 (wv_d (wd_fn Tc (by omega) C mm0 (wa_cons (wd_var C lk0 mm0 (wa_cons (wd_var C lk1 mm1 (wa_nil ⟨rfl, ns, a, B, rfl, hns, hB, fun c hc => wv_f (wf_lst (wa_nil ⟨Nat.zero_le _, _, _, pt4, pt5, ?_⟩))⟩))))))) rfl)
  refine wb_cons (ws_set C lk6 mm6 (wv_d (wd_op od_sub (wd_var C lk4 mm4 (wd_op od_pow (wd_int (wd_int ⟨_, _, rfl, rfl, ⟨by decide, by decide, by decide⟩, _, _, rfl, rfl, _, pt6, ?_⟩)))))))
  refine wb_cons (ws_for (ns := [7]) C (wi_range C mm1 fx.n_range (wd_var C lk2 mm2 ⟨m, rfl, by omega, fun i ρ' => ∃ (is : List Int) (r : Int) (s7 s8 s9 : Sl), ρ' = [.d (.lst (ns.map D.int)), .d (eN a), .d (eN m), .d (eN b), .d (.int c), .own (is.map D.int), .d (.int r), s7, s8, s9] ∧ is.length = i, ⟨[], _, _, _, _, rfl, rfl⟩, ?_, ?_⟩)))
  · rintro ρ' ⟨is, r, s7, s8, s9, rfl, e⟩
    rw [upto_length] at e
    refine wb_frzL pt5 pt5 ?_
    exact wb_one (ws_ret (wd_var C lk5 mm5 (h is e)))
  · rintro i d ρ1 ed ⟨is, r, s7, s8, s9, rfl, e⟩
    have hi : i < m := by have := (List.getElem?_eq_some_iff.mp ed).1; rwa [upto_length] at this
    rw [upto_get hi] at ed
    cases ed
    have hz : (is.map D.int).length < sizeLine := by have := line_big; rw [List.length_map]; omega
    refine wg_name C lk7 mm7 pt7 ?_
    refine wb_one (ws_if (wt_cmp od_gt (wd_var C lk6 mm6 (wd_int ⟨_, _, rfl, rfl, _, rfl, ?_⟩))))
    refine ite_dec (fun h1 => ?_) (fun h1 => ?_)
    · refine wb_cons (ws_append C lk5 mm5 (wd_op od_mod (wd_callTy cd_int C mm2 fx.n_int b_int (wa_cons (wd_var C lk6 mm6 (wa_nil ⟨_, rfl, wd_var C lk3 mm3 ⟨_, _, rfl, rfl, by omega, hz, _, pt5, ?_⟩⟩))))))
      exact wb_one (ws_set C lk6 mm6 (wv_d (wd_op od_fdiv (wd_var C lk6 mm6 (wd_var C lk3 mm3 ⟨_, _, rfl, rfl, ⟨by omega, by omega⟩, _, pt6, is ++ [r % (b : Int)], _, _, _, _, by rw [List.map_append]; rfl, by rw [List.length_append, e]; rfl⟩)))))
    · have e20 : (2 : Nat) ^ 20 = 1048576 := by decide
      have m1 : CMulX (c + 977 * (i : Int)) (c + 31 * (i : Int) + 5) := by
        refine mulx_ok (a := B + 20) (b := B + 20) (bits_add hc (by omega)) ?_ (by omega)
        rw [Int.add_assoc]
        exact bits_add hc (by omega)
      have m2 : CMulX (c + 31 * (i : Int)) (c + 7) := mulx_ok (a := B + 20) (b := B + 20) (bits_add hc (by omega)) (bits_add hc (by decide)) (by omega)
      have k1 : (D.int ((i : Int) % 9 + 1)) = eN (i % 9 + 1) := by show D.int _ = D.int _; congr 1
      have k2 : (D.int ((i : Int) % 7 + 2)) = eN (i % 7 + 2) := by show D.int _ = D.int _; congr 1
      refine wb_cons (ws_set C lk8 mm8 (wv_d (wd_fn Td (by omega) C mm3 (wa_cons (wd_op od_mulX (wd_op od_add (wd_var C lk4 mm4 (wd_op od_mul (wd_int (wd_var C lk7 mm7 ⟨_, _, rfl, rfl, .inl ⟨by decide, by decide⟩, _, _, rfl, rfl, ?_⟩))))))))))
      refine wd_op od_add (wd_op od_add (wd_var C lk4 mm4 (wd_op od_mul (wd_int (wd_var C lk7 mm7 ⟨_, _, rfl, rfl, .inl ⟨by decide, by decide⟩, _, _, rfl, rfl, wd_int ⟨_, _, rfl, rfl, _, _, rfl, rfl, m1, ?_⟩⟩)))))
      refine wa_cons (wd_op od_add (wd_op od_mod (wd_var C lk7 mm7 (wd_int ⟨_, _, rfl, rfl, by decide, wd_int ⟨_, _, rfl, rfl, wa_cons (wd_int (wa_nil ⟨rfl, (c + 977 * (i : Int)) * (c + 31 * (i : Int) + 5), i % 9 + 1, 999983, by rw [← k1], by decide, fun bl hb0 hb1 => ⟨_, pt8, ?_⟩⟩))⟩⟩))))
      refine wb_cons (ws_set C lk9 mm9 (wv_d (wd_fn Td (by omega) C mm3 (wa_cons (wd_op od_add (wd_op od_mulX (wd_op od_add (wd_var C lk4 mm4 (wd_op od_mul (wd_int (wd_var C lk7 mm7 ⟨_, _, rfl, rfl, .inl ⟨by decide, by decide⟩, _, _, rfl, rfl, wd_op od_add (wd_var C lk4 mm4 (wd_int ⟨_, _, rfl, rfl, _, _, rfl, rfl, m2, ?_⟩))⟩)))))))))))
      refine wd_op od_mul (wd_int (wd_var C lk7 mm7 ⟨_, _, rfl, rfl, .inl ⟨by decide, by decide⟩, _, _, rfl, rfl, ?_⟩))
      refine wa_cons (wd_op od_add (wd_op od_mod (wd_var C lk7 mm7 (wd_int ⟨_, _, rfl, rfl, by decide, wd_int ⟨_, _, rfl, rfl, wa_cons (wd_int (wa_nil ⟨rfl, (c + 31 * (i : Int)) * (c + 7) + 977 * (i : Int), i % 7 + 2, 1000003, by rw [← k2], by decide, fun mo hm0 hm1 => ⟨_, pt9, ?_⟩⟩))⟩⟩))))
      exact wb_one (ws_append C lk5 mm5 (wd_op od_mod (wd_callTy cd_int C mm2 fx.n_int b_int (wa_cons (wd_op od_add (wd_op od_mul (wd_var C lk8 mm8 (wd_int ⟨_, _, rfl, rfl, .inr ⟨by decide, by decide⟩, wd_var C lk9 mm9 ⟨_, _, rfl, rfl, wa_nil ⟨_, rfl, wd_var C lk3 mm3 ⟨_, _, rfl, rfl, by omega, hz, _, pt5, is ++ [(bl * 1000003 + mo) % (b : Int)], _, _, _, _, by rw [List.map_append]; rfl, by rw [List.length_append, e]; rfl⟩⟩⟩⟩))))))))
/-! _law_pool -/
def nLPool : List Str := ["_law_script", "_law_bases", "_law_found", "_law_at", "_law_base"]
def cLPool : Ct := fun ds R => ∃ (ns : List Int) (bs : List Nat) (B : Nat), ds = [.lst (ns.map D.int), eT bs] ∧ (∀ x ∈ ns, x.natAbs < 2 ^ B) ∧ 20 ≤ B ∧ B ≤ 3000000 ∧ bs.length ≤ 1000 ∧ (∀ b ∈ bs, 0 < b ∧ b < 1073741824) ∧ R .dr
theorem ok_lpool (fx : Fx M CT CS CB) (Td : M.Fn "_law_digits" 3 4 cLDigits) (Fd : FunD M.K "_law_pool" "_law_pool" (defArgs (top 50)) (defBody (top 50)) (defScope (top 50)) [] [] f fd) : FnOk M.P M.w M.K M.mg M.base CX0 4 f fd ["_law_script", "_law_bases"] (spC M.P M.w M.K 2 cLPool) := by
  refine fn_ok (N := nLPool) nLPool nLPool ["enumerate", "_law_digits"] Fd (C8.fnScope_by (by decide +kernel)) rfl (by decide +kernel) (by decide +kernel) (by decide +kernel) fun q F0 H0 C ds R hl h => ?_
  obtain ⟨ns, bs, B, rfl, hns, hB, hB2, hbl, hbs, h⟩ := h
  refine wb_cons (ws_set C lk2 mm2 (wv_f (wf_lst (wa_nil ⟨Nat.zero_le _, _, pt2, ?_⟩))))
  refine wb_cons (ws_for (ns := [3, 4]) C (wi_enum C mm0 fx.n_enumerate (wd_var C lk1 mm1 ⟨_, rfl, fun i ρ' => ∃ (is : List Int) (s3 s4 : Sl), ρ' = [.d (.lst (ns.map D.int)), .d (eT bs), .own (is.map D.int), s3, s4] ∧ is.length = 150 * i, ⟨[], _, _, rfl, rfl⟩, ?_, ?_⟩)))
  · rintro ρ' ⟨is, s3, s4, rfl, e⟩
    refine wb_draws pt2 pt2 ?_
    exact wb_one (ws_ret (wd_var C lk2 mm2 h))
  · rintro i d ρ1 ed ⟨is, s3, s4, rfl, e⟩
    have hi : i < bs.length := by have := (List.getElem?_eq_some_iff.mp ed).1; rwa [enumD_length, List.length_map] at this
    rw [enumD_get (d := eN bs[i]) (by rw [List.getElem?_map, List.getElem?_eq_getElem hi]; rfl)] at ed
    cases ed
    have hb := hbs _ (List.getElem_mem hi)
    generalize bs[i] = b at hb ⊢
    refine wg_tup C rfl (wgs_cons rfl (wg_name C lk3 mm3 pt3 rfl) (wgs_cons rfl (wg_name C lk4 mm4 pt4 rfl) (wgs_nil ?_))) rfl
    refine wb_one (ws_set C lk2 mm2 (wv_f (wf_thawL pt2 pt2 (wf_catL (wd_var C lk2 mm2 (wd_fn Td (by omega) C mm1 (wa_cons (wd_var C lk0 mm0 (wa_cons (wd_var C lk3 mm3 (wa_cons (wd_int (wa_cons (wd_var C lk4 mm4 (wa_nil ⟨rfl, ns, i, 150, b, B, rfl, hns, hB, hB2, by omega, hb.1, hb.2, fun is2 e2 => ⟨_, _, rfl, rfl, le_line (by rw [List.length_map, List.length_map]; omega), fun d hd => ?_, _, pt2, is ++ is2, _, _, by rw [List.map_append], by rw [List.length_append]; omega⟩⟩)))))))))))))))
    rw [← List.map_append] at hd
    obtain ⟨y, _, rfl⟩ := List.mem_map.mp hd
    exact .int
end
end W3
end
section
set_option Elab.async false
set_option linter.all false
set_option maxRecDepth 100000
set_option maxHeartbeats 1000000
/-! XG: three targets at once, names of a cell among them. -/
namespace W3
open PySem PySem.Spec PyProof.Rows L2 Pl
section
variable {X : Cx} {F0 H0 : Hp} {ρ ρ' : Rho} {N L A G : List Str} {k : Nat} {nx : Rho → Prop} {rt : D → Prop} {a b c : Expr} {pos : Pos}
theorem ws_tup3 {x y z : Str} {i j l : Nat} {si sj sl : Sl} {px py pz pt : Pos} {kt k2 : Nat} {pt2 : Pos} (C : Cxt X N L A G k) (li : Lk N ρ x i si) (lj : Lk N ρ y j sj) (ll : Lk N ρ z l sl) (mx : x ∈ A) (my : y ∈ A) (mz : z ∈ A)
    (h : WV X F0 H0 ρ a fun s1 => WV X F0 H0 ρ b fun s2 => WV X F0 H0 ρ c fun s3 => ∃ ρ1 ρ2 ρ3, Pt ρ i s1 ρ1 ∧ Pt ρ1 j s2 ρ2 ∧ Pt ρ2 l s3 ρ3 ∧ nx ρ3)
    (hw : swappedStores [.Tuple [.Name x px, .Name y py, .Name z pz] kt pt] (.Tuple [a, b, c] k2 pt2) X.env = pure none)
    (hs : swapsWithSole [.Tuple [.Name x px, .Name y py, .Name z pz] kt pt] (.Tuple [a, b, c] k2 pt2) pos.line X.env = pure false := by rfl)
    (h1 : (assignEach [.Tuple [.Name x px, .Name y py, .Name z pz] kt pt] X.env).map (·.2) = [assign (.Tuple [.Name x px, .Name y py, .Name z pz] kt pt) X.env] := by rfl)
    (hsa : starEach (a :: [b, c]) X.env = (false, eval a X.env) :: starEach [b, c] X.env := by rfl) (hsb : starEach (b :: [c]) X.env = (false, eval b X.env) :: starEach [c] X.env := by rfl) (hsc : starEach (c :: []) X.env = (false, eval c X.env) :: starEach [] X.env := by rfl)
    (hn : (assignEach [.Name x px, .Name y py, .Name z pz] X.env).length = 3 := by rfl) (hst : (assignEach [.Name x px, .Name y py, .Name z pz] X.env).findIdx? (·.1) = none := by rfl)
    (ha1 : (assignEach (.Name x px :: [.Name y py, .Name z pz]) X.env).map (·.2) = assign (.Name x px) X.env :: (assignEach [.Name y py, .Name z pz] X.env).map (·.2) := by rfl)
    (ha2 : (assignEach (.Name y py :: [.Name z pz]) X.env).map (·.2) = assign (.Name y py) X.env :: (assignEach [.Name z pz] X.env).map (·.2) := by rfl)
    (ha3 : (assignEach (.Name z pz :: []) X.env).map (·.2) = assign (.Name z pz) X.env :: (assignEach [] X.env).map (·.2) := by rfl) :
    WS X F0 H0 ρ (.Assign [.Tuple [.Name x px, .Name y py, .Name z pz] kt pt] (.Tuple [a, b, c] k2 pt2) pos) nx rt := fun σ F H E0 E k1 kr => by
  obtain ⟨hx, gx⟩ := C.asg x mx
  obtain ⟨hy, gy⟩ := C.asg y my
  obtain ⟨hz, gz⟩ := C.asg z mz
  have nd : X.N.Nodup := by rw [C.hN]; exact C.nd
  refine run_ps (ps_asg (pe_tup (pa_cons pe_run (pa_cons pe_run (pa_cons pe_run pa_nil hsc) hsb) hsa)) (pg_tup C.calm (pgs_cons (pg_name nd (by rw [C.hN]; exact li.n) hx gx) (pgs_cons (pg_name nd (by rw [C.hN]; exact lj.n) hy gy) (pgs_cons (pg_name nd (by rw [C.hN]; exact ll.n) hz gz) pgs_nil ha3) ha2) ha1) hn hst) hs hw h1) ?_
  refine h σ F H _ E fun s1 v1 F1 H1 h1 st1 r1 => ?_
  refine h1 σ F1 H1 _ (E.stp st1) fun s2 v2 F2 H2 h2 st2 r2 => ?_
  refine h2 σ F2 H2 _ ((E.stp st1).stp st2) fun s3 v3 F3 H3 h3 st3 r3 => ?_
  obtain ⟨ρ1, ρ2, ρ3, p1, p2, p3, h3⟩ := h3
  have e := p1.eq
  subst e
  have e := p2.eq
  subst e
  have e := p3.eq
  subst e
  refine ⟨by have := line_big; show 3 ≤ _; omega, fun p hp => ?_⟩
  have st4 : Stp F3 H3 F3 (upd H3 p (.tup [v1, v2, v3])) := Stp.newO st3.sub hp
  refine ⟨p, [v1, v2, v3], rfl, SqT.of upd_same, rfl, v1, _, rfl, v2, _, rfl, v3, _, rfl, rfl, k1 _ _ F3 _ h3 ?_ (st1.ff.trans (st2.ff.trans st3.ff))⟩
  have Ea : Fm X.prog X.w X.K F0 H0 (ρ.set i s1) (σ.set i (some v1)) F3 (upd H3 p (.tup [v1, v2, v3])) := ((((E.stp st1).stp st2).stp st3).stp st4).setV (r1.stp ((st2.trans st3).trans st4)) E.h0 fun i x e q _ => E.live i x e q
  have lv : ∀ (m : Nat) (w : Sl), (ρ.set i s1)[m]? = some w → w.isOwn = true → ∃ p o, (σ.set i (some v1))[m]? = some (some (V.ref p)) ∧ H1 p = some o := fun m w e q => by
    rcases getSet e with ⟨rfl, e2, hl⟩ | ⟨hne, e2⟩
    · subst e2
      obtain ⟨p, rfl, o, _, _⟩ := r1.own q
      obtain ⟨u, hu⟩ := o.some
      exact ⟨p, u, List.getElem?_set_self (by rw [← E.len]; exact hl), hu⟩
    · obtain ⟨p, o, e3, e4⟩ := E.live m w e2 q
      exact ⟨p, o, by rw [List.getElem?_set_ne (Ne.symm hne)]; exact e3, st1.hh _ _ e4⟩
  have Eb : Fm X.prog X.w X.K F0 H0 ((ρ.set i s1).set j s2) ((σ.set i (some v1)).set j (some v2)) F3 (upd H3 p (.tup [v1, v2, v3])) := Ea.setV (r2.stp (st3.trans st4)) (E.h0.trans st1.hh) fun m w e q _ => lv m w e q
  refine Eb.setV (r3.stp st4) ((E.h0.trans st1.hh).trans st2.hh) fun m w e q ne => ?_
  rcases getSet e with ⟨rfl, e2, hl⟩ | ⟨hne, e2⟩
  · subst e2
    obtain ⟨p, rfl, o, _, _⟩ := r2.own q
    obtain ⟨u, hu⟩ := o.some
    exact ⟨p, u, List.getElem?_set_self (by rw [List.length_set] at hl ⊢; rw [← E.len]; exact hl), hu⟩
  · obtain ⟨p, o, e3, e4⟩ := lv m w e2 q
    exact ⟨p, o, by rw [List.getElem?_set_ne (Ne.symm hne)]; exact e3, st2.hh _ _ e4⟩
end
end W3
end
section
set_option Elab.async false
set_option linter.all false
set_option maxRecDepth 100000
set_option maxHeartbeats 1000000
/-! XH: the law's walks: parts. -/
namespace W3
open PySem PySem.Spec PyProof.Rows L2 Pl
theorem wb_inv {X : Cx} {F0 H0 : Hp} {ρ : Rho} {st : Stmt} {sts : List Stmt} {nx : Rho → Prop} {rt : D → Prop} (I : Rho → Prop) (h : WS X F0 H0 ρ st I rt) (h2 : ∀ ρ', I ρ' → WB X F0 H0 ρ' sts nx rt) : WB X F0 H0 ρ (st :: sts) nx rt :=
  wb_cons fun σ F H E0 E k1 k2 => h σ F H E0 E (fun ρ' σ' F' H' p E' s => k1 ρ' σ' F' H' (h2 ρ' p) E' s) k2
section
variable {X : Cx} {F0 H0 : Hp} {ρ : Rho} {PF : List D → Prop} {elt tg c : Expr} {scope : Scope} {own : List (Str × Nat)} {ns : List Nat} {α : Type}
theorem lc_sub (xs : List α) (enc : α → D) (ok : α → Prop) (f : α → D) (hz : xs.length ≤ sizeLine) (k : ∀ ys : List α, ys.Sublist xs → (∀ y ∈ ys, ok y) → PF (ys.map f)) (hb : ∀ x ∈ xs, ∀ q : Bq, WG (q.cx X scope) F0 H0 (wipeR ρ (own.map (·.2))) tg ns (enc x) fun ρ1 => ∀ q : Bq, WT (q.cx X scope) F0 H0 ρ1 c fun b => b = true → ok x ∧ ∀ q : Bq, WD (q.cx X scope) F0 H0 ρ1 elt fun y => y = f x) : LcH X F0 H0 ρ scope own tg ns [c] elt PF (xs.map enc) := by
  refine ⟨by rw [List.length_map]; exact hz, fun i acc => ∃ ys : List α, ys.Sublist (xs.take i) ∧ (∀ y ∈ ys, ok y) ∧ acc = ys.map f, ⟨[], List.nil_sublist _, (fun _ z => nomatch z), rfl⟩, fun acc e => ?_, fun i d acc ed e q => ?_⟩
  · obtain ⟨ys, h1, h2, rfl⟩ := e
    rw [List.length_map, List.take_length] at h1
    exact k ys h1 h2
  · have hi : i < xs.length := by have := (List.getElem?_eq_some_iff.mp ed).1; rwa [List.length_map] at this
    rw [List.getElem?_map, List.getElem?_eq_getElem hi] at ed
    cases ed
    obtain ⟨ys, h1, h3, rfl⟩ := e
    intro σ F H v Q E r kk
    refine hb _ (List.getElem_mem hi) q σ F H v Q E r fun ρ1 σ1 pr E1 ch => kk ρ1 σ1 ?_ E1 ch
    show ∀ q : Bq, WT _ _ _ _ _ _
    intro q2
    have et : xs.take (i + 1) = xs.take i ++ [xs[i]] := by rw [List.take_succ, List.getElem?_eq_getElem hi, Option.toList_some]
    refine wt_mono (pr q2) fun b hb => ?_
    cases b with
    | true =>
      obtain ⟨e1, h2⟩ := hb rfl
      rw [if_pos rfl]
      intro q3
      refine (h2 q3).mono fun y ey => ⟨ys ++ [xs[i]], ?_, ?_, ?_⟩
      · rw [et]; exact h1.append (List.Sublist.refl _)
      · intro z hz
        rcases List.mem_append.mp hz with hz | hz
        · exact h3 z hz
        · rw [List.mem_singleton.mp hz]; exact e1
      · rw [ey, List.map_append]; rfl
    | false =>
      rw [if_neg Bool.false_ne_true]
      refine ⟨ys, ?_, h3, rfl⟩
      rw [et]; exact h1.trans (List.sublist_append_left _ _)
end
/-- what holds of the classes and the rows made for the first signs -/
structure PI (i : Nat) (cls : List Nat) (rows : List (Nat × Nat × Nat)) : Prop where
  len : cls.length = i
  cl : ∀ x ∈ cls, x ≤ 2
  up : (rows.map (·.1)).Pairwise (· < ·)
  row : ∀ r ∈ rows, r.1 < i ∧ r.2.1 < r.1 ∧ r.2.2 < r.1 ∧ cls.getD r.1 0 = 0 ∧ cls.getD r.2.1 0 = 0
  apart : (rows.map (·.2)).Nodup
/-- the rows of the next sign put in ahead of its class -/
structure PJ (i : Nat) (cls : List Nat) (rows : List (Nat × Nat × Nat)) : Prop where
  len : cls.length = i
  cl : ∀ x ∈ cls, x ≤ 2
  up : (rows.map (·.1)).Pairwise (· < ·)
  row : ∀ r ∈ rows, r.1 < i + 1 ∧ r.2.1 < r.1 ∧ r.2.2 < r.1 ∧ (r.1 < i → cls.getD r.1 0 = 0) ∧ cls.getD r.2.1 0 = 0
  apart : (rows.map (·.2)).Nodup
theorem getD_app {xs : List Nat} {y j : Nat} (h : j < xs.length) : (xs ++ [y]).getD j 0 = xs.getD j 0 := by
  rw [List.getD_eq_getElem?_getD, List.getD_eq_getElem?_getD, List.getElem?_append_left h]
theorem PJ.next {i : Nat} {cls : List Nat} {rows : List (Nat × Nat × Nat)} (h : PJ i cls rows) {y : Nat} (hy : y ≤ 2) (hk : i ∈ rows.map (·.1) → y = 0) : PI (i + 1) (cls ++ [y]) rows := by
  refine ⟨by rw [List.length_append, h.len]; rfl, fun x hx => ?_, h.up, fun r hr => ?_, h.apart⟩
  · rcases List.mem_append.mp hx with hx | hx
    · exact h.cl x hx
    · rw [List.mem_singleton.mp hx]; exact hy
  · obtain ⟨h1, h2, h3, h4, h5⟩ := h.row r hr
    have hl := h.len
    refine ⟨h1, h2, h3, ?_, by rw [getD_app (by omega)]; exact h5⟩
    by_cases hi : r.1 < i
    · rw [getD_app (by omega)]; exact h4 hi
    · have e : r.1 = i := by omega
      have : y = 0 := hk (e ▸ List.mem_map_of_mem hr)
      rw [this, e, List.getD_eq_getElem?_getD, ← hl, List.getElem?_concat_length]; rfl
theorem PI.same {i : Nat} {cls : List Nat} {rows : List (Nat × Nat × Nat)} (h : PI i cls rows) : PJ i cls rows :=
  ⟨h.len, h.cl, h.up, fun r hr => let ⟨a, b, c, d, e⟩ := h.row r hr; ⟨by omega, b, c, fun _ => d, e⟩, h.apart⟩
theorem PI.put {i : Nat} {cls : List Nat} {rows : List (Nat × Nat × Nat)} (h : PI i cls rows) {x y : Nat} (hx : x < i) (hc : cls.getD x 0 = 0) (hy : y < i) (hn : (x, y) ∉ rows.map (·.2)) : PJ i cls (rows ++ [(i, x, y)]) := by
  refine ⟨h.len, h.cl, ?_, fun r hr => ?_, ?_⟩
  · rw [List.map_append, List.pairwise_append]
    refine ⟨h.up, List.pairwise_singleton _ _, fun a ha b hb => ?_⟩
    obtain ⟨r, hr, rfl⟩ := List.mem_map.mp ha
    rw [List.mem_singleton.mp hb]
    exact (h.row r hr).1
  · rcases List.mem_append.mp hr with hr | hr
    · obtain ⟨a, b, c, d, e⟩ := h.row r hr
      exact ⟨by omega, b, c, fun _ => d, e⟩
    · rw [List.mem_singleton.mp hr]
      exact ⟨by omega, hx, hy, (fun z => by simp at z), hc⟩
  · rw [List.map_append, List.nodup_append]
    refine ⟨h.apart, List.pairwise_singleton _ _, fun a ha b hb => ?_⟩
    rw [List.mem_singleton.mp hb]
    intro z
    rw [z] at ha
    exact hn ha
theorem PI.ok {n : Nat} {cls : List Nat} {rows : List (Nat × Nat × Nat)} (h : PI n cls rows) (h0 : 0 < n) (h4 : n ≤ 4) {shut : List Nat} (hs : shut.Sublist (List.range n)) (hk : ∀ x ∈ shut, x ∈ rows.map (·.1)) : (⟨cls, rows, shut⟩ : Plan).Ok := by
  have hl := h.len
  refine ⟨by show 0 < cls.length; omega, by show cls.length ≤ 4; omega, h.cl, h.up, fun r hr => ?_, h.apart, ?_, hk⟩
  · obtain ⟨a, b, c, d, e⟩ := h.row r hr
    exact ⟨by show r.1 < cls.length; omega, b, c, d, e⟩
  · exact List.Pairwise.sublist hs List.pairwise_lt_range
end W3
end
section
set_option Elab.async false
set_option linter.all false
set_option maxRecDepth 100000
set_option maxHeartbeats 1000000
/-! XI: the law's walks: parts. -/
namespace W3
open PySem PySem.Spec PyProof.Rows L2 Pl
theorem vals_list (rows : List (Nat × Nat × Nat)) : IsL (.lst ((rD rows).map (·.2))) (rows.map fun r => .tup (kT [r.2.1, r.2.2])) := by
  refine ⟨?_, ?_, ?_⟩
  · unfold rD
    rw [ofKs_map, List.map_map, List.map_map]
    congr 1
  · intro k hk
    obtain ⟨r, _, rfl⟩ := List.mem_map.mp hk
    have := dep_kT [r.2.1, r.2.2]
    omega
  · intro k hk
    obtain ⟨r, _, rfl⟩ := List.mem_map.mp hk
    exact noTx_kT _
theorem vals_mem (rows : List (Nat × Nat × Nat)) (x y : Nat) : decide (NestedKey.tup (kT [x, y]) ∈ rows.map fun r => NestedKey.tup (kT [r.2.1, r.2.2])) = decide ((x, y) ∈ rows.map (·.2)) := by
  rw [Bool.eq_iff_iff, decide_eq_true_eq, decide_eq_true_eq]
  constructor
  · intro h
    obtain ⟨r, hr, e⟩ := List.mem_map.mp h
    have e := kT_inj.mp (NestedKey.tup.inj e)
    have e1 : r.2.1 = x := (List.cons.inj e).1
    have e2 : r.2.2 = y := (List.cons.inj (List.cons.inj e).2).1
    exact List.mem_map.mpr ⟨r, hr, by rw [← e1, ← e2]⟩
  · intro h
    obtain ⟨r, hr, e⟩ := List.mem_map.mp h
    exact List.mem_map.mpr ⟨r, hr, by rw [← (Prod.mk.inj (show (r.2.1, r.2.2) = (x, y) from e)).1, ← (Prod.mk.inj (show (r.2.1, r.2.2) = (x, y) from e)).2]⟩
theorem dk_isSome (rows : List (Nat × Nat × Nat)) (i : Nat) : (dkGet (rD rows) (i : Int)).isSome = decide (i ∈ rows.map (·.1)) := by
  rw [Bool.eq_iff_iff, decide_eq_true_eq]
  unfold dkGet rD
  rw [Option.isSome_map, List.find?_isSome]
  constructor
  · rintro ⟨a, ha, e⟩
    obtain ⟨r, hr, e3⟩ := List.mem_map.mp ha
    have e := of_decide_eq_true e
    have e : r.1 = i := by have : (r.1 : Int) = (i : Int) := by rw [← e3] at e; exact e
                           omega
    exact List.mem_map.mpr ⟨r, hr, e⟩
  · intro h
    obtain ⟨r, hr, rfl⟩ := List.mem_map.mp h
    exact ⟨((r.1 : Int), _), List.mem_map.mpr ⟨r, hr, rfl⟩, decide_eq_true rfl⟩
section
variable {M : Md} {CT CS CB : Addr} {f : Addr} {fd : FuncData}
def nLParts : List Str := ["_law_draws", "_law_most", "_law_many", "_law_classes", "_law_parts_here", "_law_sign", "_law_bases", "_law_two", "_law_shut", "_law_one"]
def lLParts : List Str := ["_law_draws", "_law_most", "_law_many", "_law_classes", "_law_parts_here", "_law_sign", "_law_bases", "_law_two", "_law_shut"]
def cLParts : Ct := fun ds R => ∃ m : Nat, ds = [.dr, eN m] ∧ 0 < m ∧ m ≤ 4 ∧ ∀ p : Plan, p.Ok → R (planD p)
theorem ok_lparts (fx : Fx M CT CS CB) (Tt : M.Fn "_law_take" 1 2 cLTake) (Tp : M.Fn "_law_pick" 2 2 cLPick) (Fd : FunD M.K "_law_parts" "_law_parts" (defArgs (top 52)) (defBody (top 52)) (defScope (top 52)) [] [] f fd) : FnOk M.P M.w M.K M.mg M.base CX0 3 f fd ["_law_draws", "_law_most"] (spC M.P M.w M.K 2 cLParts) := by
  refine fn_ok (N := nLParts) lLParts lLParts ["_law_take", "dict", "range", "_law_pick", "list", "tuple"] Fd (C8.fnScope_by (by decide +kernel)) rfl (by decide +kernel) (by decide +kernel) (by decide +kernel) fun q F0 H0 C ds R hl h => ?_
  obtain ⟨m, rfl, hm, hm4, h⟩ := h
  have lob : (defScope (top 52)).names.lookup ("_law_bases" : Str) = some .local := by decide +kernel
  refine wb_cons (ws_tup3 C lk2 lk3 lk4 mm2 mm3 mm4 (wv_d (wd_op od_add (wd_int (wd_fn Tt (by omega) C mm0 (wa_cons (wd_var C lk0 mm0 (wa_cons (wd_var C lk1 mm1 (wa_nil ⟨rfl, m, rfl, hm, fun r hr => ⟨_, _, rfl, rfl, wv_f (wf_lst (wa_nil ⟨Nat.zero_le _, wv_dict0 C mm1 fx.n_dict ⟨_, _, _, pt2, pt3, pt4, ?_⟩⟩))⟩⟩))))))))) rfl)
  rw [show (D.int (1 + (r : Int))) = eN (1 + r) from rfl]
  have hn0 : 0 < 1 + r := by omega
  have hn4 : 1 + r ≤ 4 := by omega
  generalize 1 + r = n at hn0 hn4 ⊢
  refine wb_cons (ws_for (ns := [5]) C (wi_range C mm2 fx.n_range (wd_var C lk2 mm2 ⟨n, rfl, by omega, fun i ρ' => i ≤ n ∧ ∃ (cls : List Nat) (rows : List (Nat × Nat × Nat)) (s5 s6 s7 s8 s9 : Sl), ρ' = [.d .dr, .d (eN m), .d (eN n), .own (cls.map eN), .ownK (rD rows), s5, s6, s7, s8, s9] ∧ PI i cls rows, ⟨Nat.zero_le _, [], [], _, _, _, _, _, rfl, ⟨rfl, (fun _ z => nomatch z), .nil, (fun _ z => nomatch z), .nil⟩⟩, ?_, ?_⟩)))
  · rintro ρ' ⟨_, cls, rows, s5, s6, s7, s8, s9, rfl, pi⟩
    rw [upto_length] at pi
    refine wb_frzL pt3 pt3 (wb_frzK pt4 pt4 ?_)
    refine wb_cons (ws_set C lk8 mm8 (wv_d (wd_callTy cd_tuple C mm5 fx.n_tuple b_tuple (wa_cons (wd_fresh (wf_c (own := [("_law_sign", 5)]) (ns := [5]) C (blkOk_by (show blkC nLParts (defScope (top 52)) _ _ = true by decide +kernel)) (by decide) (wi_range C mm2 fx.n_range (wd_var C lk2 mm2 ⟨n, rfl, by omega, lc_sub (List.range n) eN (fun x => x ∈ rows.map (·.1)) eN (le_line (by rw [List.length_range]; omega)) (fun shut h1 h2 => ?_) fun x hx q => ?_⟩))))))))
    · refine wa_nil ⟨_, .inl rfl, _, pt8, ?_⟩
      exact wb_one (ws_ret (wd_tup (wa_cons (wd_callTy cd_tuple C mm5 fx.n_tuple b_tuple (wa_cons (wd_var C lk3 mm3 (wa_nil ⟨_, .inl rfl, wa_cons (wd_var C lk4 mm4 (wa_cons (wd_var C lk8 mm8 (wa_nil ⟨ln3, h ⟨cls, rows, shut⟩ (pi.ok hn0 hn4 h1 h2)⟩))))⟩)))))))
    · refine wg_in C ["_law_sign", "_law_parts_here", "_law_draws"] ["_law_sign"] ["_law_take"] rfl rfl rfl fun C' => wg_name C' lk5 mm0 pt5 ?_
      intro q
      refine wt_in C ["_law_sign", "_law_parts_here", "_law_draws"] ["_law_sign"] ["_law_take"] rfl rfl rfl fun C' => ?_
      refine wt_w (ww_and (wt_cmp (od_inK C') (wd_var C' lk5 mm0 (wd_var C' lk4 mm1 ⟨_, _, rfl, rfl, _, rfl, ?_⟩))))
      rw [dk_isSome]
      refine ite_dec (fun hk => ?_) (fun hk z => nomatch z)
      refine ww_and1 (wt_cmp (od_eq C') (wd_fn Tt (by omega) C' mm0 (wa_cons (wd_var C' lk0 mm2 (wa_cons (wd_int (wa_nil ⟨rfl, 4, rfl, by omega, fun r hr => wd_int ⟨_, _, isK_N r, isK_I 0, _, rfl, fun _ => ⟨hk, fun q => wd_in C ["_law_sign", "_law_parts_here", "_law_draws"] ["_law_sign"] ["_law_take"] rfl rfl rfl fun C' => wd_var C' lk5 mm0 rfl⟩⟩⟩)))))))
  · rintro i d ρ1 ed ⟨_, cls, rows, s5, s6, s7, s8, s9, rfl, pi⟩
    have hi : i < n := by have := (List.getElem?_eq_some_iff.mp ed).1; rwa [upto_length] at this
    rw [upto_get hi] at ed
    cases ed
    have hcl := pi.len
    refine wg_name C lk5 mm5 pt5 ?_
    -- bases
    refine wb_cons (ws_c (own := [("_law_one", 9)]) (ns := [9]) C lk6 lob (blkOk_by (show blkC nLParts (defScope (top 52)) _ _ = true by decide +kernel)) (by decide) (sw_true rfl lob rfl rfl) (wi_range C mm2 fx.n_range (wd_var C lk5 mm5 ⟨i, rfl, by omega, lc_filt (List.range i) eN (fun x => decide (cls.getD x 0 = 0)) eN (le_line (by rw [List.length_range]; omega)) ⟨_, pt6, ?_⟩ fun x hx q => ?_⟩)))
    rotate_left
    · have hxi := List.mem_range.mp hx
      refine wg_in C ["_law_one", "_law_classes"] ["_law_one"] [] rfl rfl rfl fun C' => wg_name C' lk9 mm0 pt9 ?_
      intro q
      refine wt_in C ["_law_one", "_law_classes"] ["_law_one"] [] rfl rfl rfl fun C' => wt_thawL pt3 pt3 ?_
      refine wt_cmp (od_eq C') (wd_ix xd_lst (wd_var C' lk3 mm1 (wd_var C' lk9 mm0 ⟨_, _, _, rfl, rfl, at_N (by omega), wd_int ⟨_, _, isK_N _, isK_I 0, _, rfl, ?_⟩⟩)))
      refine ⟨dec_N _ 0, fun _ q => wd_in C ["_law_one", "_law_classes"] ["_law_one"] [] rfl rfl rfl fun C' => wd_var C' lk9 mm0 rfl⟩
    have hbs : ∀ x ∈ (List.range i).filter (fun x => decide (cls.getD x 0 = 0)), x < i ∧ cls.getD x 0 = 0 := fun x hx => ⟨List.mem_range.mp (List.mem_filter.mp hx).1, of_decide_eq_true (List.mem_filter.mp hx).2⟩
    generalize (List.range i).filter (fun x => decide (cls.getD x 0 = 0)) = bs at hbs ⊢
    refine wb_frzL pt6 pt6 ?_
    refine wb_inv (fun ρ' => ∃ (rows' : List (Nat × Nat × Nat)) (s6 s7 : Sl), ρ' = [.d .dr, .d (eN m), .d (eN n), .own (cls.map eN), .ownK (rD rows'), .d (eN i), s6, s7, s8, s9] ∧ PJ i cls rows') (ws_if (wt_mono (PB := fun t => t = true → 0 < bs.length) ?_ fun t ht => ite_b (fun et => ?_) (fun et => wb_nil ⟨rows, _, _, rfl, pi.same⟩))) ?_
    · refine wt_w (ww_and (wt_cmp (od_neL C) (wd_var C lk6 mm6 (wd_fresh (wf_lst (wa_nil ⟨Nat.zero_le _, kT bs, [], isL_T bs, isL_nil, _, rfl, ?_⟩))))))
      cases bs with
      | nil => exact ite_f (fun z => nomatch z)
      | cons b bs => exact ite_t (ww_and1 (wt_cmp (od_eq C) (wd_fn Tt (by omega) C mm0 (wa_cons (wd_var C lk0 mm0 (wa_cons (wd_int (wa_nil ⟨rfl, 2, rfl, by omega, fun r hr => wd_int ⟨_, _, isK_N r, isK_I 0, _, rfl, fun _ => Nat.succ_pos _⟩⟩))))))))
    · have hb := ht et
      have hi0 : 0 < i := by
        obtain ⟨b, hb'⟩ := List.exists_mem_of_length_pos hb
        have := (hbs b hb').1
        omega
      refine wb_cons (ws_set C lk7 mm7 (wv_d (wd_tup (wa_cons (wd_fn Tp (Nat.le_refl _) C mm3 (wa_cons (wd_var C lk0 mm0 (wa_cons (wd_var C lk6 mm6 (wa_nil ⟨rfl, bs, rfl, hb, fun x hx => ?_⟩))))))))))
      refine wa_cons (wd_fn Tt (by omega) C mm0 (wa_cons (wd_var C lk0 mm0 (wa_cons (wd_var C lk5 mm5 (wa_nil ⟨rfl, i, rfl, hi0, fun y hy => wa_nil ⟨ln2, _, pt7, ?_⟩⟩))))))
      refine wb_one (ws_if (wt_thawK pt4 pt4 ?_))
      refine wt_cmp (od_ninL C) (wd_var C lk7 mm7 (wd_valsJ C mm4 fx.n_list (wd_var C lk4 mm4 ⟨_, rfl, _, _, isK_T [x, y], vals_list rows, _, rfl, ?_⟩)))
      rw [vals_mem]
      refine ite_ndec (fun hc => wb_nil ⟨rows, _, _, rfl, pi.same⟩) (fun hc => ?_)
      have hno : dkGet (rD rows) (i : Int) = none := by
        have := dk_isSome rows i
        cases e : dkGet (rD rows) (i : Int) with
        | none => rfl
        | some d =>
          rw [e] at this
          obtain ⟨r, hr, e2⟩ := List.mem_map.mp (of_decide_eq_true this.symm)
          have := (pi.row r hr).1
          omega
      have hrl : rows.length ≤ 4 := by
        have := pw_few (rows.map (·.1)) 0 i pi.up fun x hx => by
          obtain ⟨r, hr, rfl⟩ := List.mem_map.mp hx
          exact ⟨Nat.zero_le _, (pi.row r hr).1⟩
        rw [List.length_map] at this
        omega
      exact wb_one (ws_putK C lk4 mm4 (wd_var C lk7 mm7 (wd_var C lk5 mm5 ⟨_, rfl, hno, by have := line_big; show (rows.map _).length < _; rw [List.length_map]; omega, _, pt4, rows ++ [(i, x, y)], _, _, by show _ = [_, _, _, _, Sl.ownK ((rows ++ [(i, x, y)]).map _), _, _, _, _, _]; rw [List.map_append]; rfl, pi.put (hbs x hx).1 (hbs x hx).2 hy hc⟩)))
    · rintro ρ' ⟨rows', s6', s7', rfl, pj⟩
      have hz : (cls.map eN).length < sizeLine := by have := line_big; rw [List.length_map]; omega
      have fin : ∀ y : Nat, y ≤ 2 → (i ∈ rows'.map (·.1) → y = 0) → (cls.map eN).length < sizeLine ∧ ∃ ρ', Pt [Sl.d .dr, .d (eN m), .d (eN n), .own (cls.map eN), .ownK (rD rows'), .d (eN i), s6', s7', s8, s9] 3 (.own (cls.map eN ++ [eN y])) ρ' ∧ (i + 1 ≤ n ∧ ∃ (cls : List Nat) (rows : List (Nat × Nat × Nat)) (s5 s6 s7 s8 s9 : Sl), ρ' = [.d .dr, .d (eN m), .d (eN n), .own (cls.map eN), .ownK (rD rows), s5, s6, s7, s8, s9] ∧ PI (i + 1) cls rows) := fun y hy hk =>
        ⟨hz, _, pt3, by omega, cls ++ [y], rows', _, _, _, _, _, by rw [List.map_append]; rfl, pj.next hy hk⟩
      refine wb_one (ws_append C lk3 mm3 (wd_ifexp (wt_thawK pt4 pt4 ?_)))
      refine wt_cmp (od_inJ C) (wd_var C lk5 mm5 (wd_var C lk4 mm4 ⟨_, _, rfl, rfl, _, rfl, ?_⟩))
      rw [dk_isSome]
      refine ite_dec (fun hk => wd_int (fin 0 (by omega) fun _ => rfl)) (fun hk => ?_)
      refine wd_ix xd_tup (wd_tup (wa_cons (wd_int (wa_cons (wd_int (wa_cons (wd_int (wa_cons (wd_int (wa_cons (wd_int (wa_nil ⟨le_line (by show 5 ≤ 1000000; decide), wd_fn Tt (by omega) C mm0 (wa_cons (wd_var C lk0 mm0 (wa_cons (wd_int (wa_nil ⟨rfl, 5, rfl, by omega, fun r hr => ?_⟩)))))⟩))))))))))))
      have ha : atI ([0, 0, 1, 2, 1].map eN) (r : Int) = some (eN ([0, 0, 1, 2, 1].getD r 0)) := at_N hr
      refine ⟨_, _, _, rfl, rfl, ha, fin _ ?_ fun z => absurd z hk⟩
      match r, hr with
      | 0, _ => decide
      | 1, _ => decide
      | 2, _ => decide
      | 3, _ => decide
      | 4, _ => decide
end
end W3
end
section
set_option Elab.async false
set_option linter.all false
set_option maxRecDepth 100000
set_option maxHeartbeats 1000000
/-! XJ: the law's walks: shows. -/
namespace Pl.Plan
variable (p : Plan)
def stOk (j : Bool) (start : Nat) (sts : List Stg) (sms : List Seam) (s : Stg) : Bool := ((List.range p.n).all fun x => p.goesIn j sts s x) && bhIn sms (p.behind j (p.cutAt j s) start)
def smOk (j : Bool) (sms : List Seam) (m : Seam) : Bool := (List.range p.n).all fun x => bhIn sms (p.behind j m x)
end Pl.Plan
namespace W3
open PySem PySem.Spec PyProof.Rows L2 Pl
theorem shows_eq (p : Plan) (j : Bool) (start : Nat) (sts : List Stg) (sms : List Seam) : p.showsS j start sts sms = ((decide (Plan.first ∈ sts) && sms.all (p.isEven j)) && (sts.all (p.stOk j start sts sms) && sms.all (p.smOk j sms))) := by
  have e : sts.all (p.stOk j start sts sms) = (p.closed j sts && sts.all fun s => Plan.bhIn sms (p.behind j (p.cutAt j s) start)) := by
    rw [Bool.eq_iff_iff, Bool.and_eq_true]
    unfold Plan.closed
    simp only [List.all_eq_true]
    constructor
    · intro h
      exact ⟨fun s hs x hx => by have := h s hs; unfold Plan.stOk at this; rw [Bool.and_eq_true, List.all_eq_true] at this; exact this.1 x hx, fun s hs => by have := h s hs; unfold Plan.stOk at this; rw [Bool.and_eq_true] at this; exact this.2⟩
    · rintro ⟨h1, h2⟩ s hs
      unfold Plan.stOk
      rw [Bool.and_eq_true, List.all_eq_true]
      exact ⟨h1 s hs, h2 s hs⟩
  rw [e]
  unfold Plan.showsS Plan.smOk
  cases decide (Plan.first ∈ sts) <;> cases p.closed j sts <;> cases sms.all (p.isEven j) <;> simp
theorem bh_test (sms : List Seam) (o : Option (Option Seam)) : (!decide (kBh o = NestedKey.tup (kT [])) && !decide (kBh o ∈ sms.map fun m => NestedKey.tup (kM m))) = !Plan.bhIn sms o := by
  match o with
  | none => rfl
  | some none =>
    have h1 : decide (kBh (some none) = NestedKey.tup (kT [])) = false := decide_eq_false (fun z => nomatch z)
    have h2 : decide (kBh (some none) ∈ sms.map fun m => NestedKey.tup (kM m)) = false := decide_eq_false fun z => by
      obtain ⟨m, _, e⟩ := List.mem_map.mp z
      cases e
    rw [h1, h2]; rfl
  | some (some r) =>
    have h1 : decide (kBh (some (some r)) = NestedKey.tup (kT [])) = false := decide_eq_false (fun z => nomatch z)
    have h2 : decide (kBh (some (some r)) ∈ sms.map fun m => NestedKey.tup (kM m)) = decide (r ∈ sms) := by
      rw [Bool.eq_iff_iff, decide_eq_true_eq, decide_eq_true_eq]
      constructor
      · intro z
        obtain ⟨m, hm, e⟩ := List.mem_map.mp z
        have e : kM m = kM r := NestedKey.tup.inj e
        exact kM_inj.mp e ▸ hm
      · intro z; exact List.mem_map.mpr ⟨r, z, rfl⟩
    rw [h1, h2]; rfl
theorem sts_list (sts : List Stg) : IsL (.lst (sts.map eS)) (sts.map fun s => .tup (kS s)) := eS_list sts
theorem in_S (s : Stg) (sts : List Stg) : decide (NestedKey.tup (kS s) ∈ sts.map fun s => NestedKey.tup (kS s)) = decide (s ∈ sts) := by
  rw [Bool.eq_iff_iff, decide_eq_true_eq, decide_eq_true_eq]
  constructor
  · intro z
    obtain ⟨m, hm, e⟩ := List.mem_map.mp z
    exact kS_inj.mp (NestedKey.tup.inj e) ▸ hm
  · intro z; exact List.mem_map.mpr ⟨s, z, rfl⟩
theorem sms_list (sms : List Seam) : IsL (.lst (sms.map eM)) (sms.map fun m => .tup (kM m)) := by
  refine ⟨?_, ?_, ?_⟩
  · rw [ofKs_map, List.map_map]
    congr 1
    exact List.map_congr_left fun m _ => (ofK_kM m).symm
  · intro k hk
    obtain ⟨m, _, rfl⟩ := List.mem_map.mp hk
    have := dep_kM m
    omega
  · intro k hk
    obtain ⟨m, _, rfl⟩ := List.mem_map.mp hk
    exact noTx_kM m
theorem cut_mok {p : Plan} (ok : p.Ok) {j : Bool} {s : Stg} (h : SOk p s) : MOk p (p.cutAt j s) := ⟨h, first_ok p, by have := (held_ok (j := j) ok h).1; show (p.held j s).length ≤ _; omega⟩
section
variable {M : Md} {CT CS CB : Addr} {f : Addr} {fd : FuncData}
def nLShows : List Str := ["_law_plan", "_law_way", "_law_start", "_law_standings_here", "_law_seams", "_law_standing", "_law_sign", "_law_row", "_law_late", "_law_seam"]
def cLShows : Ct := fun ds R => ∃ (p : Plan) (j : Bool) (start : Nat) (sts : List Stg) (sms : List Seam), ds = [planD p, wayD j, eN start, .lst (sts.map eS), .lst (sms.map eM)] ∧ p.Ok ∧ start < p.n ∧ (∀ s ∈ sts, SOk p s) ∧ (∀ m ∈ sms, MOk p m) ∧ sts.length ≤ 100000 ∧ sms.length ≤ 100000 ∧ R (.bl (p.showsS j start sts sms))
theorem ok_lshows (fx : Fx M CT CS CB) (Te : M.Fn "_law_is_even" 3 3 cLEven) (Tr : M.Fn "_law_read" 5 4 cLRead) (Tb : M.Fn "_law_behind" 6 4 cLBehind) (Th : M.Fn "_law_held" 2 3 cLHeld) (Fd : FunD M.K "_law_shows" "_law_shows" (defArgs (top 68)) (defBody (top 68)) (defScope (top 68)) [] [] f fd) : FnOk M.P M.w M.K M.mg M.base CX0 7 f fd ["_law_plan", "_law_way", "_law_start", "_law_standings_here", "_law_seams"] (spC M.P M.w M.K 5 cLShows) := by
  refine fn_ok (N := nLShows) nLShows nLShows ["all", "range", "len", "_law_read", "_law_behind", "_law_held"] Fd (C8.fnScope_by (by decide +kernel)) rfl (by decide +kernel) (by decide +kernel) (by decide +kernel) fun q F0 H0 C ds R hl h => ?_
  obtain ⟨p, j, start, sts, sms, rfl, ok, hst, hs, hm, hl1, hl2, h⟩ := h
  have hn4 : p.n ≤ 4 := ok.few
  rw [shows_eq] at h
  refine wb_cons (ws_if (wt_eq (!(decide (Plan.first ∈ sts) && sms.all (p.isEven j))) ?_ ?_))
  · refine wt_w (ww_or (wt_cmp (od_ninL C) (wd_tup (wa_cons (wd_non (wa_cons (wd_tup (wa_nil ⟨Nat.zero_le _, wa_nil ⟨ln2, wd_var C lk3 mm3 ⟨_, _, isK_S Plan.first, sts_list sts, _, rfl, ?_⟩⟩⟩))))))))
    rw [in_S]
    refine ite_ndec (fun h1 => ?_) (fun h1 => by rw [decide_eq_false h1]; rfl)
    rw [decide_eq_true h1, Bool.true_and]
    refine ww_or1 (wt_not (wt_val (wd_callB (cd_all C) C mm0 fx.n_all b_all (wa_cons (wd_fresh (wf_eq ((sms.map (p.isEven j)).map D.bl) ?_ (wa_nil ⟨_, rfl, _, rfl, by rw [all_map_b]⟩)))))))
    refine wf_c (own := [("_law_seam", 9)]) (ns := [9]) C (blkOk_by (show blkC nLShows (defScope (top 68)) _ _ = true by decide +kernel)) (by decide) (wi_lst (wd_var C lk4 mm4 ⟨_, rfl, ?_⟩))
    refine lc_map sms eM (fun m => .bl (p.isEven j m)) (le_line (by omega)) (by rw [List.map_map]; rfl) fun m hm' q' => ?_
    refine wg_in C ["_law_seam", "_law_plan", "_law_way"] ["_law_seam"] ["_law_is_even"] rfl rfl rfl fun C' => wg_name C' lk9 mm0 pt9 ?_
    intro q'
    have mo := hm m hm'
    refine wd_in C ["_law_seam", "_law_plan", "_law_way"] ["_law_seam"] ["_law_is_even"] rfl rfl rfl fun C' => ?_
    exact wd_fn Te (by omega) C' mm0 (wa_cons (wd_var C' lk0 mm1 (wa_cons (wd_var C' lk1 mm2 (wa_cons (wd_var C' lk9 mm0 (wa_nil ⟨rfl, p, j, m, rfl, ok, mo.a, mo.b, by have := mo.l; omega, rfl⟩)))))))
  cases e0 : decide (Plan.first ∈ sts) && sms.all (p.isEven j) with
  | false =>
    rw [e0] at h
    exact ite_t (wb_one (ws_ret (wd_bl h)))
  | true =>
    rw [e0, Bool.true_and] at h
    refine ite_f (wb_nil ?_)
    refine wb_cons (ws_for (ns := [5]) C (wi_lst (wd_var C lk3 mm3 ⟨_, rfl, fun i ρ' => ∃ s5 s6 s7 s8 s9 : Sl, ρ' = [.d (planD p), .d (wayD j), .d (eN start), .d (.lst (sts.map eS)), .d (.lst (sms.map eM)), s5, s6, s7, s8, s9] ∧ (sts.take i).all (p.stOk j start sts sms) = true, ⟨_, _, _, _, _, rfl, rfl⟩, ?_, ?_⟩)))
    · rintro ρ' ⟨s5, s6, s7, s8, s9, rfl, e1⟩
      rw [List.length_map, List.take_length] at e1
      rw [e1, Bool.true_and] at h
      refine wb_cons (ws_for (ns := [9]) C (wi_lst (wd_var C lk4 mm4 ⟨_, rfl, fun i ρ' => ∃ s5 s6 s7 s8 s9 : Sl, ρ' = [.d (planD p), .d (wayD j), .d (eN start), .d (.lst (sts.map eS)), .d (.lst (sms.map eM)), s5, s6, s7, s8, s9] ∧ (sms.take i).all (p.smOk j sms) = true, ⟨_, _, _, _, _, rfl, rfl⟩, ?_, ?_⟩)))
      · rintro ρ' ⟨s5, s6, s7, s8, s9, rfl, e2⟩
        rw [List.length_map, List.take_length] at e2
        rw [e2] at h
        exact wb_one (ws_ret (wd_bl h))
      · rintro i d ρ1 ed ⟨s5, s6, s7, s8, s9, rfl, e2⟩
        have hi : i < sms.length := by have := (List.getElem?_eq_some_iff.mp ed).1; rwa [List.length_map] at this
        rw [List.getElem?_map, List.getElem?_eq_getElem hi] at ed
        cases ed
        have mi := hm _ (List.getElem_mem hi)
        have bad : p.smOk j sms sms[i] = false → sms.all (p.smOk j sms) = false := fun z => by
          rw [List.all_eq_false]; exact ⟨_, List.getElem_mem hi, by rw [z]; exact Bool.false_ne_true⟩
        have good : p.smOk j sms sms[i] = true → (sms.take (i + 1)).all (p.smOk j sms) = true := fun z => by
          rw [List.take_succ, List.getElem?_eq_getElem hi, Option.toList_some, List.all_append, e2]; simp [z]
        dsimp only
        generalize sms[i] = m at mi bad good ⊢
        refine wg_name C lk9 mm9 pt9 ?_
        refine wb_one (ws_for (ns := [6]) C (wi_range C mm1 fx.n_range (wd_callB cd_lenT C mm2 fx.n_len b_len (wa_cons (wd_ix xd_tup (wd_var C lk0 mm0 (wd_int ⟨_, _, _, rfl, rfl, at_0, wa_nil ⟨_, rfl, p.n, by rw [List.length_map]; rfl, by omega, fun x ρ' => ∃ s5 s6 s7 s8 : Sl, ρ' = [.d (planD p), .d (wayD j), .d (eN start), .d (.lst (sts.map eS)), .d (.lst (sms.map eM)), s5, s6, s7, s8, .d (eM m)] ∧ ((List.range x).all fun x => Plan.bhIn sms (p.behind j m x)) = true, ⟨_, _, _, _, rfl, rfl⟩, ?_, ?_⟩⟩)))))))
        · rintro ρ' ⟨s5, s6, s7, s8, rfl, e3⟩
          rw [upto_length] at e3
          exact ⟨_, _, _, _, _, rfl, good e3⟩
        · rintro x d ρ1 ed ⟨s5, s6, s7, s8, rfl, e3⟩
          have hx : x < p.n := by have := (List.getElem?_eq_some_iff.mp ed).1; rwa [upto_length] at this
          rw [upto_get hx] at ed
          cases ed
          refine wg_name C lk6 mm6 pt6 ?_
          refine wb_cons (ws_set C lk8 mm8 (wv_d (wd_fn Tb (by omega) C mm4 (wa_cons (wd_var C lk0 mm0 (wa_cons (wd_var C lk1 mm1 (wa_cons (wd_var C lk9 mm9 (wa_cons (wd_var C lk6 mm6 (wa_nil ⟨rfl, p, j, m, x, rfl, ok, mi, hx, _, pt8, ?_⟩))))))))))))
          refine wb_one (ws_if (wt_eq (!Plan.bhIn sms (p.behind j m x)) ?_ ?_))
          · refine wt_w (ww_and (wt_cmp (od_ne C) (wd_var C lk8 mm8 (wd_tup (wa_nil ⟨Nat.zero_le _, _, _, isK_Bh _, isK_T [], _, rfl, ?_⟩)))))
            rw [← bh_test]
            refine ite_ndec (fun h1 => by rw [decide_eq_true h1]; rfl) (fun h1 => ?_)
            rw [decide_eq_false h1, Bool.not_false, Bool.true_and]
            exact ww_and1 (wt_cmp (od_ninL C) (wd_var C lk8 mm8 (wd_var C lk4 mm4 ⟨_, _, isK_Bh _, sms_list sms, _, rfl, rfl⟩)))
          · cases eb : Plan.bhIn sms (p.behind j m x) with
            | true => exact ite_f (wb_nil ⟨_, _, _, _, rfl, by rw [List.range_succ, List.all_append, e3]; simp [eb]⟩)
            | false =>
              have z : p.smOk j sms m = false := by
                unfold Plan.smOk
                rw [List.all_eq_false]; exact ⟨x, List.mem_range.mpr hx, by rw [eb]; exact Bool.false_ne_true⟩
              rw [bad z] at h
              exact ite_t (wb_one (ws_ret (wd_bl h)))
    · rintro i d ρ1 ed ⟨s5, s6, s7, s8, s9, rfl, e2⟩
      have hi : i < sts.length := by have := (List.getElem?_eq_some_iff.mp ed).1; rwa [List.length_map] at this
      rw [List.getElem?_map, List.getElem?_eq_getElem hi] at ed
      cases ed
      have si := hs _ (List.getElem_mem hi)
      have bad : p.stOk j start sts sms sts[i] = false → R (.bl false) := fun z => by
        have : sts.all (p.stOk j start sts sms) = false := by rw [List.all_eq_false]; exact ⟨_, List.getElem_mem hi, by rw [z]; exact Bool.false_ne_true⟩
        rw [this, Bool.false_and] at h
        exact h
      have good : p.stOk j start sts sms sts[i] = true → (sts.take (i + 1)).all (p.stOk j start sts sms) = true := fun z => by
        rw [List.take_succ, List.getElem?_eq_getElem hi, Option.toList_some, List.all_append, e2]; simp [z]
      dsimp only
      generalize sts[i] = s at si bad good ⊢
      refine wg_name C lk5 mm5 pt5 ?_
      refine wb_cons (ws_for (ns := [6]) C (wi_range C mm1 fx.n_range (wd_callB cd_lenT C mm2 fx.n_len b_len (wa_cons (wd_ix xd_tup (wd_var C lk0 mm0 (wd_int ⟨_, _, _, rfl, rfl, at_0, wa_nil ⟨_, rfl, p.n, by rw [List.length_map]; rfl, by omega, fun x ρ' => ∃ s6 s7 : Sl, ρ' = [.d (planD p), .d (wayD j), .d (eN start), .d (.lst (sts.map eS)), .d (.lst (sms.map eM)), .d (eS s), s6, s7, s8, s9] ∧ ((List.range x).all fun x => p.goesIn j sts s x) = true, ⟨_, _, rfl, rfl⟩, ?_, ?_⟩⟩)))))))
      · rintro ρ' ⟨s6', s7', rfl, e3⟩
        rw [upto_length] at e3
        refine wb_cons (ws_set C lk8 mm8 (wv_d (wd_fn Tb (by omega) C mm4 (wa_cons (wd_var C lk0 mm0 (wa_cons (wd_var C lk1 mm1 (wa_cons (wd_tup (wa_cons (wd_var C lk5 mm5 (wa_cons (wd_tup (wa_cons (wd_non (wa_cons (wd_tup (wa_nil ⟨Nat.zero_le _, wa_nil ⟨ln2, ?_⟩⟩))))))))))))))))))
        refine wa_cons (wd_fn Th (by omega) C mm5 (wa_cons (wd_var C lk0 mm0 (wa_cons (wd_var C lk1 mm1 (wa_cons (wd_var C lk5 mm5 (wa_nil ⟨rfl, p, j, s, rfl, ok, si, wa_nil ⟨ln3, wa_cons (wd_var C lk2 mm2 (wa_nil ⟨rfl, p, j, p.cutAt j s, start, rfl, ok, cut_mok ok si, hst, _, pt8, ?_⟩))⟩⟩))))))))
        refine wb_one (ws_if (wt_eq (!Plan.bhIn sms (p.behind j (p.cutAt j s) start)) ?_ ?_))
        · refine wt_w (ww_and (wt_cmp (od_ne C) (wd_var C lk8 mm8 (wd_tup (wa_nil ⟨Nat.zero_le _, _, _, isK_Bh _, isK_T [], _, rfl, ?_⟩)))))
          rw [← bh_test]
          refine ite_ndec (fun h1 => by rw [decide_eq_true h1]; rfl) (fun h1 => ?_)
          rw [decide_eq_false h1, Bool.not_false, Bool.true_and]
          exact ww_and1 (wt_cmp (od_ninL C) (wd_var C lk8 mm8 (wd_var C lk4 mm4 ⟨_, _, isK_Bh _, sms_list sms, _, rfl, rfl⟩)))
        · cases eb : Plan.bhIn sms (p.behind j (p.cutAt j s) start) with
          | true => exact ite_f (wb_nil ⟨_, _, _, _, _, rfl, good (by unfold Plan.stOk; rw [e3, eb]; rfl)⟩)
          | false => exact ite_t (wb_one (ws_ret (wd_bl (bad (by unfold Plan.stOk; rw [eb, Bool.and_false])))))
      · rintro x d ρ1 ed ⟨s6', s7', rfl, e3⟩
        have hx : x < p.n := by have := (List.getElem?_eq_some_iff.mp ed).1; rwa [upto_length] at this
        rw [upto_get hx] at ed
        cases ed
        refine wg_name C lk6 mm6 pt6 ?_
        refine wb_cons (ws_set C lk7 mm7 (wv_d (wd_fn Tr (by omega) C mm3 (wa_cons (wd_var C lk0 mm0 (wa_cons (wd_var C lk1 mm1 (wa_cons (wd_var C lk5 mm5 (wa_cons (wd_var C lk6 mm6 (wa_nil ⟨rfl, p, j, s, x, rfl, ok, si, hx, _, pt7, ?_⟩))))))))))))
        refine wb_one (ws_if (wt_eq (!p.goesIn j sts s x) ?_ ?_))
        · refine wt_w (ww_and (wt_cmp od_notN (wd_var C lk7 mm7 (wd_non ⟨rfl, _, rfl, ?_⟩))))
          rw [eR_isN]
          unfold Plan.goesIn
          cases p.readSign j s x with
          | none => exact ite_f rfl
          | some r =>
            refine ite_t ?_
            exact ww_and1 (wt_cmp (od_ninL C) (wd_ix xd_tup (wd_var C lk7 mm7 (wd_int ⟨_, _, _, rfl, rfl, at_0, wd_var C lk3 mm3 ⟨_, _, isK_S r.1, sts_list sts, _, rfl, by rw [in_S]⟩⟩))))
        · cases eb : p.goesIn j sts s x with
          | true => exact ite_f (wb_nil ⟨_, _, rfl, by rw [List.range_succ, List.all_append, e3]; simp [eb]⟩)
          | false =>
            have z : p.stOk j start sts sms s = false := by
              unfold Plan.stOk
              have : ((List.range p.n).all fun x => p.goesIn j sts s x) = false := by
                rw [List.all_eq_false]; exact ⟨x, List.mem_range.mpr hx, by rw [eb]; exact Bool.false_ne_true⟩
              rw [this, Bool.false_and]
            exact ite_t (wb_one (ws_ret (wd_bl (bad z))))
end
end W3
end
section
set_option Elab.async false
set_option linter.all false
set_option maxRecDepth 100000
set_option maxHeartbeats 1000000
/-! N1: plain facts: reading a text; the law's plain is the package's. -/
namespace Pl
namespace Plan
def readT (p : Plan) (j : Bool) (s : Stg) (xs : List Nat) : Option (Stg × List Nat) := p.readGo j s [] (xs.flatMap p.bare)
end Plan
end Pl
namespace W3
open Pl
theorem readGo_c1 (p : Plan) (j : Bool) (s : Stg) (found : List Nat) (o : Nat) (os : List Nat) : p.readGo j s found (o :: os) = (p.readBare j s o).bind fun r => p.readGo j r.1 (found ++ r.2) os := by
  conv => lhs; unfold Plan.readGo
  cases p.readBare j s o <;> rfl
theorem runGo_c1 (p : Plan) (r o : Nat) (os : List Nat) : p.runGo r (o :: os) = if 2 < (if 0 < p.c o then r + 1 else 0) then none else p.runGo (if 0 < p.c o then r + 1 else 0) os := by
  conv => lhs; unfold Plan.runGo
theorem readGo_acc (p : Plan) (j : Bool) : ∀ (os : List Nat) (s : Stg) (found : List Nat), p.readGo j s found os = (p.readGo j s [] os).map fun r => (r.1, found ++ r.2)
  | [], s, found => by show some (s, found) = some (s, found ++ []); rw [List.append_nil]
  | o :: os, s, found => by
    unfold Plan.readGo
    cases p.readBare j s o with
    | none => rfl
    | some r =>
      dsimp only
      rw [readGo_acc p j os r.1 (found ++ r.2), readGo_acc p j os r.1 ([] ++ r.2)]
      cases p.readGo j r.1 [] os with
      | none => rfl
      | some q => simp [List.append_assoc]
theorem readGo_app (p : Plan) (j : Bool) : ∀ (os os' : List Nat) (s : Stg) (found : List Nat), p.readGo j s found (os ++ os') = (p.readGo j s found os).bind fun r => p.readGo j r.1 r.2 os'
  | [], os', s, found => rfl
  | o :: os, os', s, found => by
    rw [List.cons_append, readGo_c1, readGo_c1]
    cases p.readBare j s o with
    | none => rfl
    | some r => exact readGo_app p j os os' r.1 _
theorem readT_nil (p : Plan) (j : Bool) (s : Stg) : p.readT j s [] = some (s, []) := rfl
theorem readT_app (p : Plan) (j : Bool) (s : Stg) (a b : List Nat) : p.readT j s (a ++ b) = (p.readT j s a).bind fun r => (p.readT j r.1 b).map fun q => (q.1, r.2 ++ q.2) := by
  unfold Plan.readT
  rw [List.flatMap_append, readGo_app]
  congr 1
  funext r
  exact readGo_acc p j _ r.1 r.2
theorem readT_one (p : Plan) (j : Bool) (s : Stg) (x : Nat) : p.readT j s [x] = p.readSign j s x := by
  unfold Plan.readT Plan.readSign
  rw [List.flatMap_cons, List.flatMap_nil, List.append_nil]
theorem readT_cons (p : Plan) (j : Bool) (s : Stg) (x : Nat) (xs : List Nat) : p.readT j s (x :: xs) = (p.readSign j s x).bind fun r => (p.readT j r.1 xs).map fun q => (q.1, r.2 ++ q.2) := by
  rw [show x :: xs = [x] ++ xs from rfl, readT_app, readT_one]
theorem plainGo_eq (p : Plan) (j : Bool) : ∀ (xs : List Nat) (s : Stg) (found : List Nat), p.plainGo j s found xs = (p.readT j s xs).map fun r => found ++ (r.2 ++ p.held j r.1)
  | [], s, found => rfl
  | x :: xs, s, found => by
    rw [readT_cons]
    unfold Plan.plainGo
    cases p.readSign j s x with
    | none => rfl
    | some r =>
      dsimp only
      rw [plainGo_eq p j xs, Option.bind_some]
      cases p.readT j r.1 xs with
      | none => rfl
      | some q => simp [List.append_assoc]
theorem madePlain_eq (p : Plan) (j : Bool) (xs : List Nat) : p.madePlain j xs = (p.readT j Plan.first xs).map fun r => r.2 ++ p.held j r.1 := by
  unfold Plan.madePlain
  rw [plainGo_eq]; rfl
/-! ### runs -/
theorem run_read (p : Plan) (j : Bool) : ∀ (os : List Nat) (s : Stg) (found : List Nat), s.2.length ≤ 2 → (p.readGo j s found os).map (fun q => q.1.2.length) = p.runGo s.2.length os
  | [], s, found, _ => rfl
  | o :: os, s, found, h => by
    rw [runGo_c1]
    unfold Plan.readGo Plan.readBare
    by_cases hc : 0 < p.c o
    · simp only [if_pos hc]
      by_cases hl : s.2.length = 2
      · rw [if_pos hl, if_pos (by omega)]; rfl
      · rw [if_neg hl, if_neg (by omega)]
        have e : (p.withMark s.2 o).length = s.2.length + 1 := withMark_len p s.2 o
        have ih := run_read p j os (s.1, p.withMark s.2 o) (found ++ []) (by show (p.withMark s.2 o).length ≤ 2; omega)
        dsimp only at ih ⊢
        rw [ih, e]
    · simp only [if_neg hc]
      rw [if_neg (show ¬ 2 < 0 by omega)]
      split
      · rename_i e; split at e <;> cases e
      · rename_i r e
        have hr : r.1.2 = [] := by split at e <;> (cases e; rfl)
        have ih := run_read p j os r.1 (found ++ r.2) (by rw [hr]; exact Nat.zero_le _)
        rw [ih, hr]; rfl
theorem runGo_app (p : Plan) : ∀ (a b : List Nat) (r : Nat), p.runGo r (a ++ b) = (p.runGo r a).bind fun r' => p.runGo r' b
  | [], b, r => rfl
  | o :: a, b, r => by
    rw [List.cons_append, runGo_c1, runGo_c1]
    generalize (if 0 < p.c o then r + 1 else 0) = r'
    by_cases h : 2 < r'
    · rw [if_pos h, if_pos h]; rfl
    · rw [if_neg h, if_neg h]; exact runGo_app p a b r'
theorem runGo_mono (p : Plan) : ∀ (os : List Nat) (r0 r r' : Nat), r0 ≤ r → p.runGo r os = some r' → ∃ r1, p.runGo r0 os = some r1 ∧ r1 ≤ r'
  | [], r0, r, r', h, e => by cases e; exact ⟨r0, rfl, h⟩
  | o :: os, r0, r, r', h, e => by
    rw [runGo_c1] at e ⊢
    by_cases hc : 0 < p.c o
    · rw [if_pos hc] at e ⊢
      by_cases h2 : 2 < r + 1
      · rw [if_pos h2] at e; cases e
      · rw [if_neg h2] at e
        rw [if_neg (by omega)]
        exact runGo_mono p os (r0 + 1) (r + 1) r' (by omega) e
    · rw [if_neg hc] at e ⊢
      rw [if_neg (by omega)] at e ⊢
      exact runGo_mono p os 0 0 r' (Nat.le_refl _) e
theorem wrongGo_iff (p : Plan) : ∀ (xs : List Nat) (i r : Nat), p.wrongGo i r xs = none ↔ (∀ x ∈ xs, x < p.n) ∧ (p.runGo r (xs.flatMap p.bare)).isSome
  | [], i, r => ⟨fun _ => ⟨(fun _ z => nomatch z), rfl⟩, fun _ => rfl⟩
  | x :: xs, i, r => by
    unfold Plan.wrongGo
    rw [List.flatMap_cons, runGo_app]
    by_cases hx : x < p.n
    · rw [if_pos hx]
      cases e : p.runGo r (p.bare x) with
      | none => exact ⟨(fun h => nomatch h), fun h => by cases h.2⟩
      | some r' =>
        dsimp only
        rw [wrongGo_iff p xs (i + 1) r', Option.bind_some]
        exact ⟨fun h => ⟨fun y hy => by
          rcases List.mem_cons.mp hy with rfl | hy
          · exact hx
          · exact h.1 y hy, h.2⟩, fun h => ⟨fun y hy => h.1 y (List.mem_cons_of_mem _ hy), h.2⟩⟩
    · rw [if_neg hx]
      exact ⟨(fun h => nomatch h), fun h => absurd (h.1 x List.mem_cons_self) hx⟩
theorem tame_iff (p : Plan) (j : Bool) (xs : List Nat) : p.wrongAt xs = none ↔ (∀ x ∈ xs, x < p.n) ∧ (p.readT j Plan.first xs).isSome := by
  unfold Plan.wrongAt
  rw [wrongGo_iff]
  have h := run_read p j (xs.flatMap p.bare) Plan.first [] (Nat.zero_le _)
  have h' : (p.readT j Plan.first xs).map (fun q => q.1.2.length) = p.runGo 0 (xs.flatMap p.bare) := h
  rw [← h', Option.isSome_map]
theorem tame_left {p : Plan} {a b : List Nat} (h : p.wrongAt (a ++ b) = none) : p.wrongAt a = none := by
  rw [tame_iff p true] at h ⊢
  refine ⟨fun x hx => h.1 x (List.mem_append_left _ hx), ?_⟩
  have h2 := h.2
  rw [readT_app] at h2
  cases e : p.readT true Plan.first a with
  | none => rw [e] at h2; cases h2
  | some r => rfl
theorem tame_right {p : Plan} {a b : List Nat} (h : p.wrongAt (a ++ b) = none) : p.wrongAt b = none := by
  unfold Plan.wrongAt at h ⊢
  rw [wrongGo_iff] at h ⊢
  refine ⟨fun x hx => h.1 x (List.mem_append_right _ hx), ?_⟩
  have h2 := h.2
  rw [List.flatMap_append, runGo_app] at h2
  cases e : p.runGo 0 (a.flatMap p.bare) with
  | none => rw [e] at h2; cases h2
  | some r =>
    rw [e, Option.bind_some] at h2
    obtain ⟨r', e'⟩ := Option.isSome_iff_exists.mp h2
    obtain ⟨r1, e1, _⟩ := runGo_mono p _ 0 r r' (Nat.zero_le _) e'
    rw [e1]; rfl
/-! ### the law's order -/
theorem spot_stop {p : Plan} {o : Nat} {found : List Nat} {s : Nat} (h : ∀ t, s = t + 1 → ¬ (0 < p.c o ∧ p.c o < p.c (found.getD t 0))) : p.spotGo o found s = s := by
  cases s with
  | zero => rfl
  | succ t => unfold Plan.spotGo; rw [if_neg (h t rfl)]
theorem spot_go {p : Plan} {o : Nat} {found : List Nat} {t : Nat} (h : 0 < p.c o ∧ p.c o < p.c (found.getD t 0)) : p.spotGo o found (t + 1) = p.spotGo o found t := by
  conv => lhs; unfold Plan.spotGo
  rw [if_pos h]
theorem ins_base {p : Plan} {o : Nat} (h : p.c o = 0) (found : List Nat) : p.insOne found o = found ++ [o] := by
  unfold Plan.insOne
  rw [spot_stop fun t _ z => by omega, List.take_length, List.drop_length, List.append_nil]
theorem take_mid (D m1 m2 : List Nat) : (D ++ (m1 ++ m2)).take (D.length + m1.length) = D ++ m1 := by
  rw [← List.append_assoc, show D.length + m1.length = (D ++ m1).length by rw [List.length_append], List.take_left']
  rfl
theorem drop_mid (D m1 m2 : List Nat) : (D ++ (m1 ++ m2)).drop (D.length + m1.length) = m2 := by
  rw [← List.append_assoc, show D.length + m1.length = (D ++ m1).length by rw [List.length_append], List.drop_left']
  rfl
theorem getD_mid (D : List Nat) (a : Nat) (r : List Nat) : (D ++ a :: r).getD D.length 0 = a := by
  rw [List.getD_eq_getElem?_getD, List.getElem?_append_right (Nat.le_refl _), Nat.sub_self]; rfl
theorem getD_mid1 (D : List Nat) (a b : Nat) (r : List Nat) : (D ++ a :: b :: r).getD (D.length + 1) 0 = b := by
  rw [List.getD_eq_getElem?_getD, List.getElem?_append_right (by omega), show D.length + 1 - D.length = 1 by omega]; rfl
/-- what stands ahead of a run ends with a base -/
def EndsB (p : Plan) (D : List Nat) : Prop := D = [] ∨ ∃ D0 x, D = D0 ++ [x] ∧ p.c x = 0
theorem spot_end {p : Plan} {D : List Nat} (h : EndsB p D) (o : Nat) (r : List Nat) : p.spotGo o (D ++ r) D.length = D.length := by
  rcases h with rfl | ⟨D0, x, rfl, hx⟩
  · rfl
  · refine spot_stop fun t e z => ?_
    rw [List.length_append, List.length_singleton] at e
    have : t = D0.length := by omega
    rw [this, List.append_assoc, List.singleton_append, getD_mid, hx] at z
    omega
theorem ins_at {p : Plan} {o : Nat} {D m1 m2 : List Nat} (h : p.spotGo o (D ++ (m1 ++ m2)) (D ++ (m1 ++ m2)).length = D.length + m1.length) : p.insOne (D ++ (m1 ++ m2)) o = D ++ (m1 ++ o :: m2) := by
  unfold Plan.insOne
  rw [h, take_mid, drop_mid]; simp
theorem ins_mark {p : Plan} {D ms : List Nat} (hD : EndsB p D) (hs : ms.Pairwise fun a b => p.c a ≤ p.c b) (hl : ms.length ≤ 2) {o : Nat} (ho : 0 < p.c o) : p.insOne (D ++ ms) o = D ++ p.withMark ms o := by
  unfold Plan.withMark
  match ms, hs, hl with
  | [], _, _ =>
    have := ins_at (p := p) (o := o) (D := D) (m1 := []) (m2 := []) (by have := spot_end hD o []; simpa using this)
    simpa using this
  | [a], _, _ =>
    by_cases h : p.c a ≤ p.c o
    · have := ins_at (p := p) (o := o) (D := D) (m1 := [a]) (m2 := []) (by
        rw [List.append_nil, List.length_append, List.length_singleton]
        exact spot_stop fun t e z => by
          have : t = D.length := by omega
          rw [this, getD_mid] at z; omega)
      simpa [h] using this
    · have := ins_at (p := p) (o := o) (D := D) (m1 := []) (m2 := [a]) (by
        rw [List.nil_append, List.length_append, List.length_singleton, spot_go (by rw [getD_mid]; omega), spot_end hD]; rfl)
      simpa [h] using this
  | [a, b], hs, _ =>
    have hab : p.c a ≤ p.c b := by
      rw [List.pairwise_cons] at hs; exact hs.1 b List.mem_cons_self
    by_cases h2 : p.c b ≤ p.c o
    · have h1 : p.c a ≤ p.c o := by omega
      have := ins_at (p := p) (o := o) (D := D) (m1 := [a, b]) (m2 := []) (by
        rw [List.append_nil, List.length_append]
        exact spot_stop fun t e z => by
          have : t = D.length + 1 := by simp only [List.length_cons, List.length_nil] at e; omega
          rw [this, getD_mid1] at z; omega)
      simpa [h1, h2] using this
    · by_cases h1 : p.c a ≤ p.c o
      · have := ins_at (p := p) (o := o) (D := D) (m1 := [a]) (m2 := [b]) (by
          rw [List.length_append]
          show p.spotGo o (D ++ [a, b]) (D.length + 1 + 1) = D.length + 1
          rw [spot_go (by rw [getD_mid1]; omega)]
          exact spot_stop fun t e z => by
            have : t = D.length := by omega
            rw [this, getD_mid] at z; omega)
        simpa [h1, h2] using this
      · have := ins_at (p := p) (o := o) (D := D) (m1 := []) (m2 := [a, b]) (by
          rw [List.length_append]
          show p.spotGo o (D ++ [a, b]) (D.length + 1 + 1) = D.length
          rw [spot_go (by rw [getD_mid1]; omega), spot_go (by rw [getD_mid]; omega), spot_end hD])
        simpa [h1, h2] using this
end W3
end
section
set_option Elab.async false
set_option linter.all false
set_option maxRecDepth 100000
set_option maxHeartbeats 1000000
/-! N2: plain facts: the law's plain is the package's. -/
namespace W3
open Pl
/-- classes of what a standing holds -/
structure SC (p : Plan) (s : Stg) : Prop where
  b : ∀ b, s.1 = some b → p.c b = 0
  m : ∀ x ∈ s.2, 0 < p.c x
  o : s.2.Pairwise fun a b => p.c a ≤ p.c b
  l : s.2.length ≤ 2
theorem SC.first (p : Plan) : SC p Plan.first := ⟨(fun _ h => nomatch h), (fun _ h => nomatch h), List.Pairwise.nil, Nat.zero_le _⟩
theorem joined_c {p : Plan} (ok : p.Ok) {a b l : Nat} (h : p.joined a b = some l) : p.c l = 0 := by
  unfold Plan.joined at h
  obtain ⟨r, hr, rfl⟩ := Option.map_eq_some_iff.mp h
  exact (ok.row r (List.mem_of_find?_eq_some hr)).2.2.2.1
theorem withMark_sorted {p : Plan} {ms : List Nat} {o : Nat} (hs : ms.Pairwise fun a b => p.c a ≤ p.c b) (hl : ms.length < 2) : (p.withMark ms o).Pairwise fun a b => p.c a ≤ p.c b := by
  match ms, hs, hl with
  | [], _, _ => simp [Plan.withMark]
  | [a], _, _ =>
    unfold Plan.withMark
    by_cases h : p.c a ≤ p.c o
    · simp [h]
    · simp [h]; omega
theorem readBare_sc {p : Plan} (ok : p.Ok) {j : Bool} {s : Stg} {x : Nat} {r : Stg × List Nat} (h : SC p s) (e : p.readBare j s x = some r) : SC p r.1 := by
  unfold Plan.readBare at e
  by_cases hc : 0 < p.c x
  · rw [if_pos hc] at e
    by_cases hl : s.2.length = 2
    · rw [if_pos hl] at e; cases e
    · rw [if_neg hl] at e
      cases e
      have := h.l
      refine ⟨h.b, fun y hy => ?_, withMark_sorted h.o (by omega), by show (p.withMark s.2 x).length ≤ 2; rw [withMark_len]; omega⟩
      rcases withMark_mem hy with hy | rfl
      · exact h.m y hy
      · exact hc
  · rw [if_neg hc] at e
    dsimp only at e
    split at e
    · rename_i l el
      cases e
      refine ⟨fun b eb => ?_, (fun _ z => nomatch z), List.Pairwise.nil, Nat.zero_le _⟩
      cases eb
      split at el
      · exact joined_c ok el
      · cases el
    · cases e
      exact ⟨fun b eb => by cases eb; omega, (fun _ z => nomatch z), List.Pairwise.nil, Nat.zero_le _⟩
theorem readGo_sc {p : Plan} (ok : p.Ok) {j : Bool} : ∀ {os : List Nat} {s : Stg} {found : List Nat} {r : Stg × List Nat}, SC p s → p.readGo j s found os = some r → SC p r.1
  | [], s, found, r, h, e => by cases e; exact h
  | o :: os, s, found, r, h, e => by
    rw [readGo_c1] at e
    cases eb : p.readBare j s o with
    | none => rw [eb] at e; cases e
    | some q =>
      rw [eb] at e
      exact readGo_sc ok (readBare_sc ok h eb) e
theorem readSign_sc {p : Plan} (ok : p.Ok) {j : Bool} {s : Stg} {x : Nat} {r : Stg × List Nat} (h : SC p s) (e : p.readSign j s x = some r) : SC p r.1 := readGo_sc ok h e
theorem readT_sc {p : Plan} (ok : p.Ok) {j : Bool} {s : Stg} {xs : List Nat} {r : Stg × List Nat} (h : SC p s) (e : p.readT j s xs = some r) : SC p r.1 := readGo_sc ok h e
theorem hstep_c {p : Plan} (ok : p.Ok) {j : Bool} {q : Nat × List Nat} {m : Nat} (h0 : p.c q.1 = 0) (h1 : ∀ k ∈ q.2, 0 < p.c k) (hm : 0 < p.c m) : p.c (p.hstep j q m).1 = 0 ∧ ∀ k ∈ (p.hstep j q m).2, 0 < p.c k := by
  have app : ∀ k ∈ q.2 ++ [m], 0 < p.c k := fun k hk => by
    rcases List.mem_append.mp hk with hk | hk
    · exact h1 k hk
    · rw [List.mem_singleton.mp hk]; exact hm
  unfold Plan.hstep
  split
  · rename_i l e
    split
    · refine ⟨?_, h1⟩
      cases j with
      | true => exact joined_c ok (by simpa using e)
      | false => simp at e
    · exact ⟨h0, app⟩
  · exact ⟨h0, app⟩
theorem hfold_c {p : Plan} (ok : p.Ok) {j : Bool} : ∀ (ms : List Nat) {q : Nat × List Nat}, p.c q.1 = 0 → (∀ k ∈ q.2, 0 < p.c k) → (∀ k ∈ ms, 0 < p.c k) → p.c (ms.foldl (p.hstep j) q).1 = 0 ∧ ∀ k ∈ (ms.foldl (p.hstep j) q).2, 0 < p.c k
  | [], q, h0, h1, _ => ⟨h0, h1⟩
  | m :: ms, q, h0, h1, hm => by
    obtain ⟨a, b⟩ := hstep_c ok (j := j) h0 h1 (hm m List.mem_cons_self)
    exact hfold_c ok ms a b fun k hk => hm k (List.mem_cons_of_mem _ hk)
/-- the law's state behind a base -/
theorem lp_marks {p : Plan} : ∀ (ms : List Nat) (G : List Nat) (b : Nat) (kept : List Nat), (∀ k ∈ kept, 0 < p.c k) → (∀ k ∈ ms, 0 < p.c k) → kept.length + ms.length ≤ 2 → ms.foldl p.lpStep (G ++ b :: kept, some G.length) = (G ++ (ms.foldl (p.hstep true) (b, kept)).1 :: (ms.foldl (p.hstep true) (b, kept)).2, some G.length)
  | [], G, b, kept, _, _, _ => rfl
  | m :: ms, G, b, kept, hk, hm, hl => by
    rw [List.foldl_cons, List.foldl_cons]
    have hm0 := hm m List.mem_cons_self
    have hms := fun k h => hm k (List.mem_cons_of_mem _ h)
    have hl' : kept.length + (ms.length + 1) ≤ 2 := hl
    have e1 : p.lpLate (G ++ b :: kept, some G.length) m = p.joined b m := by
      show p.joined ((G ++ b :: kept).getD G.length 0) m = _
      rw [getD_mid]
    have e2 : Plan.lpBeh (G ++ b :: kept, some G.length) = kept := by
      show (G ++ b :: kept).drop (G.length + 1) = kept
      rw [show G ++ b :: kept = (G ++ [b]) ++ kept by simp, show G.length + 1 = (G ++ [b]).length by simp, List.drop_left']
      rfl
    have e3 : p.lpFree (G ++ b :: kept, some G.length) m = p.isFree kept m := by
      unfold Plan.lpFree
      rw [e2]
      match kept, hk, hl' with
      | [], _, _ => rfl
      | [k], hk, _ =>
        have := hk k List.mem_cons_self
        simp [Plan.isFree, this]
      | _ :: _ :: _, _, h => simp only [List.length_cons] at h; omega
    have e4 : p.lpStep (G ++ b :: kept, some G.length) m = (G ++ (p.hstep true (b, kept) m).1 :: (p.hstep true (b, kept) m).2, some G.length) := by
      unfold Plan.lpStep Plan.hstep
      rw [e1, e3, if_pos rfl]
      cases p.joined b m with
      | none => simp [Nat.ne_of_gt hm0]
      | some l =>
        dsimp only
        cases p.isFree kept m with
        | true => simp [List.set_append]
        | false => simp [Nat.ne_of_gt hm0]
    rw [e4]
    have h5 : ∀ k ∈ (p.hstep true (b, kept) m).2, 0 < p.c k := by
      have app : ∀ k ∈ kept ++ [m], 0 < p.c k := fun k h => by
        rcases List.mem_append.mp h with h | h
        · exact hk k h
        · rw [List.mem_singleton.mp h]; exact hm0
      unfold Plan.hstep
      split
      · split
        · exact hk
        · exact app
      · exact app
    have h6 := hstep_len p true (b, kept) m
    have h6 : (p.hstep true (b, kept) m).2.length ≤ kept.length + 1 := h6
    exact lp_marks ms G _ _ h5 hms (by omega)
theorem lp_none {p : Plan} : ∀ (ms G : List Nat), (∀ k ∈ ms, 0 < p.c k) → ms.foldl p.lpStep (G, none) = (G ++ ms, none)
  | [], G, _ => by rw [List.append_nil]; rfl
  | m :: ms, G, hm => by
    have h0 := hm m List.mem_cons_self
    rw [List.foldl_cons, show p.lpStep (G, none) m = (G ++ [m], none) by unfold Plan.lpStep; simp [Plan.lpLate, Nat.ne_of_gt h0], lp_none ms _ fun k h => hm k (List.mem_cons_of_mem _ h)]
    simp
/-- the law's list against the standing -/
structure LI (p : Plan) (j : Bool) (s : Stg) (G D : List Nat) : Prop where
  sc : SC p s
  e : EndsB p D
  ap : j = false → D = G ++ s.1.toList
  jo : j = true → (s.1 = none → D = [] ∧ G = []) ∧ ∀ b, s.1 = some b → D.foldl p.lpStep ([], none) = (G ++ [b], some G.length)
theorem LI.first (p : Plan) (j : Bool) : LI p j Plan.first [] [] := ⟨SC.first p, .inl rfl, fun _ => rfl, fun _ => ⟨fun _ => ⟨rfl, rfl⟩, (fun _ z => nomatch z)⟩⟩
theorem LI.mark {p : Plan} {j : Bool} {s : Stg} {G D : List Nat} (h : LI p j s G D) {ms : List Nat} (sc : SC p (s.1, ms)) : LI p j (s.1, ms) G D := ⟨sc, h.e, h.ap, h.jo⟩
theorem LI.held {p : Plan} {s : Stg} {G D : List Nat} (h : LI p true s G D) : (D ++ s.2).foldl p.lpStep ([], none) = (G ++ p.held true s, s.1.map fun _ => G.length) := by
  rw [List.foldl_append]
  obtain ⟨h1, h2⟩ := h.jo rfl
  obtain ⟨b, ms⟩ := s
  cases b with
  | none =>
    obtain ⟨rfl, rfl⟩ := h1 rfl
    exact lp_none ms [] h.sc.m
  | some b =>
    rw [h2 b rfl]
    have := lp_marks ms G b [] (fun _ z => nomatch z) h.sc.m (by have := h.sc.l; simpa using this)
    exact this
theorem LI.base {p : Plan} (ok : p.Ok) {j : Bool} {s : Stg} {G D : List Nat} (h : LI p j s G D) {x : Nat} (hx : p.c x = 0) : ∃ r, p.readBare j s x = some r ∧ r.1.2 = [] ∧ LI p j r.1 (G ++ r.2) (D ++ s.2 ++ [x]) := by
  have eb : EndsB p (D ++ s.2 ++ [x]) := .inr ⟨_, x, rfl, hx⟩
  cases j with
  | false =>
    have e : p.readBare false s x = some ((some x, []), p.held false s) := by
      unfold Plan.readBare
      rw [if_neg (by omega)]
      simp
    refine ⟨_, e, rfl, readBare_sc ok h.sc e, eb, fun _ => ?_, (fun z => nomatch z)⟩
    rw [h.ap rfl]
    obtain ⟨b, ms⟩ := s
    cases b with
    | none => simp [Plan.held]
    | some b =>
      have : ∀ (ms kept : List Nat), ms.foldl (p.hstep false) (b, kept) = (b, kept ++ ms) := by
        intro ms
        induction ms with
        | nil => intro kept; simp
        | cons m ms ih => intro kept; rw [List.foldl_cons, show p.hstep false (b, kept) m = (b, kept ++ [m]) by unfold Plan.hstep; simp, ih]; simp
      simp [Plan.held, this]
  | true =>
    have hh := h.held
    obtain ⟨b, ms⟩ := s
    cases b with
    | none =>
      have e : p.readBare true (none, ms) x = some ((some x, []), ms) := by
        unfold Plan.readBare
        rw [if_neg (by omega)]
        simp [Plan.held]
      refine ⟨_, e, rfl, readBare_sc ok h.sc e, eb, (fun z => nomatch z), fun _ => ⟨(fun z => nomatch z), fun b' e' => ?_⟩⟩
      cases e'
      rw [List.foldl_append, hh]
      show p.lpStep (G ++ ms, none) x = _
      unfold Plan.lpStep
      simp [Plan.lpLate, hx]
    | some b =>
      have hq : p.held true (some b, ms) = (ms.foldl (p.hstep true) (b, [])).1 :: (ms.foldl (p.hstep true) (b, [])).2 := rfl
      have hc := hfold_c ok (j := true) ms (q := (b, [])) (h.sc.b b rfl) (fun _ z => nomatch z) h.sc.m
      rw [hq] at hh
      generalize ms.foldl (p.hstep true) (b, []) = q at hq hc hh
      obtain ⟨b', kept⟩ := q
      have e : p.readBare true (some b, ms) x = match (if kept = [] then p.joined b' x else none) with
          | some l => some ((some l, []), [])
          | none => some ((some x, []), b' :: kept) := by
        unfold Plan.readBare
        rw [if_neg (by omega)]
        dsimp only
        rw [hq]
        cases kept with
        | nil => simp <;> cases p.joined b' x <;> rfl
        | cons k ks => simp
      have hstep : p.lpStep (G ++ b' :: kept, some G.length) x = match (if kept = [] then p.joined b' x else none) with
          | some l => (G ++ [l], some G.length)
          | none => (G ++ b' :: kept ++ [x], some (G ++ b' :: kept).length) := by
        have e1 : p.lpLate (G ++ b' :: kept, some G.length) x = p.joined b' x := by
          show p.joined ((G ++ b' :: kept).getD G.length 0) x = _
          rw [getD_mid]
        have e2 : Plan.lpBeh (G ++ b' :: kept, some G.length) = kept := by
          show (G ++ b' :: kept).drop (G.length + 1) = kept
          rw [show G ++ b' :: kept = (G ++ [b']) ++ kept by simp, show G.length + 1 = (G ++ [b']).length by simp, List.drop_left']
          rfl
        unfold Plan.lpStep Plan.lpFree
        rw [e1, e2]
        cases kept with
        | nil =>
          rw [if_pos rfl]
          cases p.joined b' x with
          | none => simp [hx]
          | some l => simp [List.set_append]
        | cons k ks =>
          rw [if_neg (List.cons_ne_nil k ks)]
          cases p.joined b' x with
          | none => simp [hx]
          | some l => simp [hx]
      generalize (if kept = [] then p.joined b' x else none) = o at e hstep
      have hfold : (D ++ ms ++ [x]).foldl p.lpStep ([], none) = p.lpStep (G ++ b' :: kept, some G.length) x := by
        rw [List.foldl_append, hh]; rfl
      cases o with
      | none =>
        refine ⟨_, e, rfl, readBare_sc ok h.sc e, eb, (fun z => nomatch z), fun _ => ⟨(fun z => nomatch z), fun b2 e' => ?_⟩⟩
        cases e'
        exact hfold.trans hstep
      | some l =>
        refine ⟨_, e, rfl, readBare_sc ok h.sc e, eb, (fun z => nomatch z), fun _ => ⟨(fun z => nomatch z), fun b2 e' => ?_⟩⟩
        cases e'
        rw [List.append_nil]
        exact hfold.trans hstep
theorem LI.go {p : Plan} (ok : p.Ok) {j : Bool} : ∀ (os : List Nat) {s : Stg} {G D : List Nat} {r : Stg × List Nat}, LI p j s G D → p.readGo j s G os = some r → ∃ D', os.foldl p.insOne (D ++ s.2) = D' ++ r.1.2 ∧ LI p j r.1 r.2 D'
  | [], s, G, D, r, h, e => by cases e; exact ⟨D, rfl, h⟩
  | o :: os, s, G, D, r, h, e => by
    rw [readGo_c1] at e
    rw [List.foldl_cons]
    by_cases hc : 0 < p.c o
    · cases eb : p.readBare j s o with
      | none => rw [eb] at e; cases e
      | some q =>
        rw [eb] at e
        have sc := readBare_sc ok h.sc eb
        unfold Plan.readBare at eb
        rw [if_pos hc] at eb
        by_cases hl : s.2.length = 2
        · rw [if_pos hl] at eb; cases eb
        · rw [if_neg hl] at eb
          cases eb
          rw [ins_mark h.e h.sc.o h.sc.l hc]
          have := LI.go ok os (h.mark sc) (r := r) (by simpa using e)
          exact this
    · have hc : p.c o = 0 := by omega
      obtain ⟨q, eb, eq, hi⟩ := h.base ok hc
      rw [eb] at e
      rw [ins_base hc]
      have := LI.go ok os hi e
      rw [eq, List.append_nil] at this
      exact this
theorem ordered_eq (p : Plan) (xs : List Nat) : p.ordered xs = (xs.flatMap p.bare).foldl p.insOne [] := by
  unfold Plan.ordered
  generalize ([] : List Nat) = f
  induction xs generalizing f with
  | nil => rfl
  | cons x xs ih => rw [List.foldl_cons, List.flatMap_cons, List.foldl_append, ih]; rfl
theorem lawPlain_eq {p : Plan} (ok : p.Ok) {j : Bool} {xs : List Nat} (h : (p.readT j Plan.first xs).isSome) : p.madePlain j xs = some (p.lawPlain j xs) := by
  obtain ⟨r, e⟩ := Option.isSome_iff_exists.mp h
  rw [madePlain_eq, e]
  obtain ⟨D, e1, hi⟩ := LI.go ok (xs.flatMap p.bare) (LI.first p j) e
  have e2 : p.ordered xs = D ++ r.1.2 := by rw [ordered_eq]; exact e1
  show some _ = _
  unfold Plan.lawPlain
  rw [e2]
  cases j with
  | true => rw [if_pos rfl, hi.held]
  | false =>
    rw [if_neg Bool.false_ne_true, hi.ap rfl]
    obtain ⟨⟨b, ms⟩, g⟩ := r
    cases b with
    | none => simp [Plan.held]
    | some b =>
      have : ∀ (ms kept : List Nat), ms.foldl (p.hstep false) (b, kept) = (b, kept ++ ms) := by
        intro ms
        induction ms with
        | nil => intro kept; simp
        | cons m ms ih => intro kept; rw [List.foldl_cons, show p.hstep false (b, kept) m = (b, kept ++ [m]) by unfold Plan.hstep; simp, ih]; simp
      simp [Plan.held, this]
theorem tame_plain {p : Plan} (ok : p.Ok) (j : Bool) {xs : List Nat} (h : p.wrongAt xs = none) : p.madePlain j xs = some (p.lawPlain j xs) := lawPlain_eq ok ((tame_iff p j xs).mp h).2
theorem harm_fine {p : Plan} (ok : p.Ok) (j : Bool) {a b : List Nat} (h : p.wrongAt (a ++ b) = none) : Harm p j a b (p.lawFine j a b) :=
  ⟨_, _, _, tame_plain ok j (tame_left h), tame_plain ok j (tame_right h), tame_plain ok j h, rfl⟩
end W3
end
section
set_option Elab.async false
set_option linter.all false
set_option maxRecDepth 100000
set_option maxHeartbeats 1000000
/-! N3: plain facts: seams. -/
namespace Pl
namespace Plan
def seamGo (p : Plan) (j : Bool) : Seam → List Nat → Option (Option Seam)
  | m, [] => some (some m)
  | m, x :: xs => match p.behind j m x with
    | none => none
    | some none => some none
    | some (some r) => seamGo p j r xs
end Plan
end Pl
namespace W3
open Pl
/-- a seam come to from a standing by a text -/
structure WSm (p : Plan) (j : Bool) (S : Stg) (b : List Nat) (m : Seam) (gw gp : List Nat) : Prop where
  w : p.readT j S b = some (m.1, gw)
  q : p.readT j Plan.first b = some (m.2.1, gp)
  e : gw ++ m.2.2 = p.held j S ++ gp
  a : SC p m.1
  b : SC p m.2.1
  l : m.2.1.2.length ≤ m.1.2.length
theorem WSm.cut {p : Plan} {j : Bool} {S : Stg} (h : SC p S) : WSm p j S [] (p.cutAt j S) [] [] := ⟨rfl, rfl, by simp [Plan.cutAt], h, SC.first p, Nat.zero_le _⟩
theorem cut_even (p : Plan) (j : Bool) (S : Stg) : p.isEven j (p.cutAt j S) = true := by
  simp [Plan.isEven, Plan.cutAt, Plan.held, Plan.first]
theorem sign_run {p : Plan} {j : Bool} {s : Stg} {x : Nat} (h : s.2.length ≤ 2) : (p.readSign j s x).map (fun q => q.1.2.length) = p.runGo s.2.length (p.bare x) := run_read p j (p.bare x) s [] h
theorem sign_both {p : Plan} {j : Bool} {s t : Stg} {x : Nat} {r : Stg × List Nat} (hs : s.2.length ≤ 2) (ht : t.2.length ≤ s.2.length) (e : p.readSign j s x = some r) : ∃ q, p.readSign j t x = some q ∧ q.1.2.length ≤ r.1.2.length := by
  have h1 := sign_run (p := p) (j := j) (x := x) hs
  have h2 := sign_run (p := p) (j := j) (s := t) (x := x) (by omega)
  rw [e] at h1
  obtain ⟨r1, e1, l1⟩ := runGo_mono p _ t.2.length s.2.length _ ht h1.symm
  rw [e1] at h2
  obtain ⟨q, eq, rfl⟩ := Option.map_eq_some_iff.mp h2
  exact ⟨q, eq, l1⟩
/-- what is held back begins with a base, if there is one; all else are marks -/
theorem held_tail {p : Plan} (ok : p.Ok) {j : Bool} {s : Stg} (h : SC p s) {u v : List Nat} {y : Nat} (e : p.held j s = u ++ y :: v) (hu : u ≠ []) : 0 < p.c y := by
  obtain ⟨b, ms⟩ := s
  cases b with
  | none =>
    have e : ms = u ++ y :: v := e
    exact h.m y (by rw [e]; exact List.mem_append_right _ List.mem_cons_self)
  | some b =>
    have hc := hfold_c ok (j := j) ms (q := (b, [])) (h.b b rfl) (fun _ z => nomatch z) h.m
    have e : (ms.foldl (p.hstep j) (b, [])).1 :: (ms.foldl (p.hstep j) (b, [])).2 = u ++ y :: v := e
    cases u with
    | nil => exact absurd rfl hu
    | cons u0 u =>
      injection e with _ e
      exact hc.2 y (by rw [e]; exact List.mem_append_right _ List.mem_cons_self)
theorem held_base {p : Plan} (ok : p.Ok) {j : Bool} {s : Stg} (h : SC p s) {b : Nat} (hb : s.1 = some b) : ∃ y v, p.held j s = y :: v ∧ p.c y = 0 := by
  obtain ⟨b', ms⟩ := s
  cases hb
  have hc := hfold_c ok (j := j) ms (q := (b, [])) (h.b b rfl) (fun _ z => nomatch z) h.m
  exact ⟨_, _, rfl, hc.1⟩
/-- a sign that gives something out leaves a base -/
theorem bare_gone {p : Plan} {j : Bool} {s : Stg} {x : Nat} {r : Stg × List Nat} (e : p.readBare j s x = some r) : (r.2 ≠ [] ∨ s.1.isSome) → r.1.1.isSome := by
  unfold Plan.readBare at e
  split at e
  · split at e
    · cases e
    · cases e
      intro h
      rcases h with h | h
      · exact absurd rfl h
      · exact h
  · dsimp only at e
    split at e <;> (cases e; intro _; rfl)
theorem go_gone {p : Plan} {j : Bool} : ∀ (os : List Nat) {s : Stg} {found : List Nat} {r : Stg × List Nat}, p.readGo j s found os = some r → (found ≠ [] → s.1.isSome) → (r.2 ≠ [] → r.1.1.isSome)
  | [], s, found, r, e, h => by cases e; exact h
  | o :: os, s, found, r, e, h => by
    rw [readGo_c1] at e
    cases eb : p.readBare j s o with
    | none => rw [eb] at e; cases e
    | some q =>
      rw [eb] at e
      refine go_gone os e fun hne => bare_gone eb ?_
      by_cases h2 : q.2 = []
      · rw [h2, List.append_nil] at hne; exact .inr (h hne)
      · exact .inl h2
theorem behind_step {p : Plan} (ok : p.Ok) {j : Bool} {S : Stg} {b : List Nat} {m : Seam} {gw gp : List Nat} (h : WSm p j S b m gw gp) (x : Nat) :
    (p.behind j m x = none ∧ p.readT j S (b ++ [x]) = none) ∨
    (p.behind j m x = some none ∧ ∃ W P gw' gp', p.readT j S (b ++ [x]) = some (W, gw') ∧ p.readT j Plan.first (b ++ [x]) = some (P, gp') ∧ p.held j S ++ (gp' ++ p.held j P) ≠ gw' ++ p.held j W) ∨
    ∃ r gw' gp', p.behind j m x = some (some r) ∧ WSm p j S (b ++ [x]) r gw' gp' ∧ p.isEven j r = true := by
  have hr : p.readT j S (b ++ [x]) = (p.readSign j m.1 x).map fun q => (q.1, gw ++ q.2) := by
    rw [readT_app, h.w, Option.bind_some, readT_one]
  have hq : p.readT j Plan.first (b ++ [x]) = (p.readSign j m.2.1 x).map fun q => (q.1, gp ++ q.2) := by
    rw [readT_app, h.q, Option.bind_some, readT_one]
  cases ef : p.readSign j m.1 x with
  | none =>
    rw [ef] at hr
    exact .inl ⟨by unfold Plan.behind; rw [ef], hr⟩
  | some f =>
    obtain ⟨g, eg, lg⟩ := sign_both h.a.l h.l ef
    rw [ef] at hr
    rw [eg] at hq
    have hr : p.readT j S (b ++ [x]) = some (f.1, gw ++ f.2) := hr
    have hq : p.readT j Plan.first (b ++ [x]) = some (g.1, gp ++ g.2) := hq
    have sf := readSign_sc ok h.a ef
    have sg := readSign_sc ok h.b eg
    have eb : p.behind j m x = if (m.2.2 ++ g.2).take f.2.length = f.2 then (if p.isEven j (f.1, g.1, (m.2.2 ++ g.2).drop f.2.length) then some (some (f.1, g.1, (m.2.2 ++ g.2).drop f.2.length)) else some none) else some none := by
      unfold Plan.behind; rw [ef, eg]
    by_cases ht : (m.2.2 ++ g.2).take f.2.length = f.2
    · rw [if_pos ht] at eb
      have key : (gw ++ f.2) ++ (m.2.2 ++ g.2).drop f.2.length = p.held j S ++ (gp ++ g.2) := by
        have e1 : f.2 ++ (m.2.2 ++ g.2).drop f.2.length = m.2.2 ++ g.2 := by
          conv => lhs; lhs; rw [← ht]
          exact List.take_append_drop _ _
        rw [List.append_assoc, e1, ← List.append_assoc, h.e, List.append_assoc]
      by_cases hev : p.isEven j (f.1, g.1, (m.2.2 ++ g.2).drop f.2.length) = true
      · rw [if_pos hev] at eb
        exact .inr (.inr ⟨_, _, _, eb, ⟨hr, hq, key, sf, sg, lg⟩, hev⟩)
      · rw [if_neg hev] at eb
        refine .inr (.inl ⟨eb, _, _, _, _, hr, hq, fun e => hev ?_⟩)
        rw [← List.append_assoc, ← key, List.append_assoc] at e
        have e := List.append_cancel_left e
        unfold Plan.isEven
        exact decide_eq_true e.symm
    · rw [if_neg ht] at eb
      refine .inr (.inl ⟨eb, _, _, _, _, hr, hq, fun e => ?_⟩)
      rw [← List.append_assoc, ← List.append_assoc, ← h.e, List.append_assoc, List.append_assoc, List.append_assoc] at e
      have e := List.append_cancel_left e
      rw [← List.append_assoc] at e
      -- late ++ held P' = first.2 ++ held W'
      generalize m.2.2 ++ g.2 = late at ht e
      by_cases hl : f.2.length ≤ late.length
      · apply ht
        have := congrArg (List.take f.2.length) e
        rwa [List.take_append_of_le_length hl, List.take_left'] at this
        rfl
      · have hl : late.length < f.2.length := by omega
        have hne : f.2 ≠ [] := fun z => by rw [z] at hl; exact absurd hl (Nat.not_lt_zero _)
        have e1 : f.2 = late ++ f.2.drop late.length := by
          have := congrArg (List.take late.length) e
          rw [List.take_left' rfl, List.take_append_of_le_length (by omega)] at this
          conv => lhs; rw [← List.take_append_drop late.length f.2, ← this]
        have hun : f.2.drop late.length ≠ [] := fun z => by
          rw [z, List.append_nil] at e1
          rw [e1] at hl; omega
        generalize f.2.drop late.length = u at e1 hun
        rw [e1, List.append_assoc] at e
        have e := List.append_cancel_left e
        have hs := go_gone (p.bare x) ef (fun z => absurd rfl z) hne
        obtain ⟨b', eb'⟩ := Option.isSome_iff_exists.mp hs
        obtain ⟨y, v, ey, hy⟩ := held_base ok (j := j) sf eb'
        rw [ey] at e
        have := held_tail ok sg e hun
        omega
theorem lawPlain_read {p : Plan} (ok : p.Ok) {j : Bool} {xs : List Nat} {r : Stg × List Nat} (e : p.readT j Plan.first xs = some r) : p.lawPlain j xs = r.2 ++ p.held j r.1 := by
  have h := lawPlain_eq ok (j := j) (xs := xs) (by rw [e]; rfl)
  rw [madePlain_eq, e] at h
  injection h with h
  exact h.symm
theorem fine_read {p : Plan} (ok : p.Ok) {j : Bool} {a b : List Nat} {S W P : Stg} {ga gw gp : List Nat} (ea : p.readT j Plan.first a = some (S, ga)) (ew : p.readT j S b = some (W, gw)) (ep : p.readT j Plan.first b = some (P, gp)) : p.lawFine j a b = decide (p.held j S ++ (gp ++ p.held j P) = gw ++ p.held j W) := by
  unfold Plan.lawFine
  have e1 : p.readT j Plan.first (a ++ b) = some (W, ga ++ gw) := by rw [readT_app, ea, Option.bind_some, ew]; rfl
  rw [lawPlain_read ok ea, lawPlain_read ok ep, lawPlain_read ok e1, Bool.eq_iff_iff, decide_eq_true_eq, decide_eq_true_eq]
  rw [List.append_assoc, List.append_assoc]
  exact ⟨fun h => List.append_cancel_left h, fun h => by rw [h]⟩
/-- a walk along seams -/
theorem go_spec {p : Plan} (ok : p.Ok) {j : Bool} {S : Stg} : ∀ (xs : List Nat) {b : List Nat} {m : Seam} {gw gp : List Nat}, WSm p j S b m gw gp → p.isEven j m = true → (p.readT j S (b ++ xs)).isSome → p.seamGo j m xs = some none ∨ ∃ m' gw' gp', p.seamGo j m xs = some (some m') ∧ WSm p j S (b ++ xs) m' gw' gp' ∧ p.isEven j m' = true
  | [], b, m, gw, gp, h, he, _ => .inr ⟨m, gw, gp, rfl, by rw [List.append_nil]; exact h, he⟩
  | x :: xs, b, m, gw, gp, h, he, hr => by
    rw [show b ++ x :: xs = (b ++ [x]) ++ xs by simp] at hr ⊢
    unfold Plan.seamGo
    rcases behind_step ok h x with ⟨_, e2⟩ | ⟨e1, _⟩ | ⟨r, gw', gp', e1, h1, h2⟩
    · rw [readT_app, e2] at hr; cases hr
    · rw [e1]; exact .inl rfl
    · rw [e1]; exact go_spec ok xs h1 h2 hr
theorem bad_go {p : Plan} (ok : p.Ok) {j : Bool} {a b : List Nat} (ht : p.wrongAt (a ++ b) = none) (hb : p.lawFine j a b = false) : ∃ S ga, p.readT j Plan.first a = some (S, ga) ∧ p.seamGo j (p.cutAt j S) b = some none := by
  have h := ((tame_iff p j _).mp ht).2
  have h' := h
  rw [readT_app] at h
  cases ea : p.readT j Plan.first a with
  | none => rw [ea] at h; cases h
  | some r =>
    obtain ⟨S, ga⟩ := r
    rw [ea, Option.bind_some, Option.isSome_map] at h
    have sS := readT_sc ok (SC.first p) ea
    refine ⟨S, ga, rfl, ?_⟩
    rcases go_spec ok b (WSm.cut (j := j) sS) (cut_even p j S) h with h1 | ⟨m', gw, gp, _, h2, h3⟩
    · exact h1
    · rw [List.nil_append] at h2
      rw [fine_read ok ea h2.w h2.q, ← List.append_assoc, ← h2.e] at hb
      have h3 : p.held j m'.1 = m'.2.2 ++ p.held j m'.2.1 := by simpa [Plan.isEven] using h3
      rw [h3] at hb
      simp at hb
end W3
end
section
set_option Elab.async false
set_option linter.all false
set_option maxRecDepth 100000
set_option maxHeartbeats 1000000
/-! N4: plain facts: the standings. -/
namespace W3
open Pl
theorem getT_app {f g : Plan.Fnd} {s : Stg} (h : s ∈ f.map (·.1)) : Plan.getT (f ++ g) s = Plan.getT f s := by
  unfold Plan.getT
  rw [List.find?_append]
  cases e : f.find? fun e => decide (e.1 = s) with
  | some x => rfl
  | none =>
    rw [List.find?_eq_none] at e
    obtain ⟨x, hx, rfl⟩ := List.mem_map.mp h
    exact absurd (by simp) (e x hx)
theorem getT_eq {f : Plan.Fnd} (nd : (f.map (·.1)).Nodup) {e : Stg × List Nat} (h : e ∈ f) : Plan.getT f e.1 = e.2 := by
  induction f with
  | nil => cases h
  | cons y f ih =>
    rw [List.map_cons, List.nodup_cons] at nd
    unfold Plan.getT at ih ⊢
    rw [List.find?_cons]
    rcases List.mem_cons.mp h with rfl | h
    · rw [decide_eq_true rfl]; rfl
    · have : ¬ (y.1 = e.1) := fun z => nd.1 (List.mem_map.mpr ⟨e, h, z.symm⟩)
      rw [decide_eq_false this]
      exact ih nd.2 h
theorem sFold_spec {p : Plan} {j : Bool} {s : Stg} : ∀ (xs : List Nat) {q : Plan.Fnd × List Stg}, s ∈ q.1.map (·.1) → ∃ new : Plan.Fnd, (xs.foldl (p.sAdd j s) q).1 = q.1 ++ new ∧ (xs.foldl (p.sAdd j s) q).2 = q.2 ++ new.map (·.1) ∧ (∀ e ∈ new, ∃ x ∈ xs, e.2 = Plan.getT q.1 s ++ [x] ∧ ∃ g, p.readSign j s x = some (e.1, g)) ∧ ∀ x ∈ xs, ∀ r, p.readSign j s x = some r → r.1 ∈ (q.1 ++ new).map (·.1)
  | [], q, _ => ⟨[], by simp, by simp, (fun _ z => nomatch z), (fun _ z => nomatch z)⟩
  | x :: xs, q, hs => by
    rw [List.foldl_cons]
    cases er : p.readSign j s x with
    | none =>
      have e : p.sAdd j s q x = q := by unfold Plan.sAdd; rw [er]
      rw [e]
      obtain ⟨new, h1, h2, h3, h4⟩ := sFold_spec (p := p) (j := j) xs hs
      refine ⟨new, h1, h2, fun e he => ?_, fun y hy r hr => ?_⟩
      · obtain ⟨y, hy, h⟩ := h3 e he
        exact ⟨y, List.mem_cons_of_mem _ hy, h⟩
      · rcases List.mem_cons.mp hy with rfl | hy
        · rw [er] at hr; cases hr
        · exact h4 y hy r hr
    | some r0 =>
      by_cases hm : r0.1 ∈ q.1.map (·.1)
      · have e : p.sAdd j s q x = q := by unfold Plan.sAdd; rw [er]; exact if_pos hm
        rw [e]
        obtain ⟨new, h1, h2, h3, h4⟩ := sFold_spec (p := p) (j := j) xs hs
        refine ⟨new, h1, h2, fun e he => ?_, fun y hy r hr => ?_⟩
        · obtain ⟨y, hy, h⟩ := h3 e he
          exact ⟨y, List.mem_cons_of_mem _ hy, h⟩
        · rcases List.mem_cons.mp hy with rfl | hy
          · rw [er] at hr; cases hr; rw [List.map_append]; exact List.mem_append_left _ hm
          · exact h4 y hy r hr
      · have e : p.sAdd j s q x = (q.1 ++ [(r0.1, Plan.getT q.1 s ++ [x])], q.2 ++ [r0.1]) := by unfold Plan.sAdd; rw [er]; exact if_neg hm
        rw [e]
        obtain ⟨new, h1, h2, h3, h4⟩ := sFold_spec (p := p) (j := j) xs (q := (q.1 ++ [(r0.1, Plan.getT q.1 s ++ [x])], q.2 ++ [r0.1])) (by rw [List.map_append]; exact List.mem_append_left _ hs)
        refine ⟨(r0.1, Plan.getT q.1 s ++ [x]) :: new, by rw [h1]; simp, by rw [h2]; simp, fun e he => ?_, fun y hy r hr => ?_⟩
        · rcases List.mem_cons.mp he with rfl | he
          · exact ⟨x, List.mem_cons_self, rfl, r0.2, er⟩
          · obtain ⟨y, hy, h, h'⟩ := h3 e he
            rw [getT_app hs] at h
            exact ⟨y, List.mem_cons_of_mem _ hy, h, h'⟩
        · rw [show q.1 ++ (r0.1, Plan.getT q.1 s ++ [x]) :: new = q.1 ++ [(r0.1, Plan.getT q.1 s ++ [x])] ++ new by simp]
          rcases List.mem_cons.mp hy with rfl | hy
          · rw [er] at hr; cases hr
            rw [List.map_append, List.map_append]
            exact List.mem_append_left _ (List.mem_append_right _ List.mem_cons_self)
          · exact h4 y hy r hr
/-- what the search for standings keeps, with the texts of the line -/
structure BI (p : Plan) (j : Bool) (found lineE : Plan.Fnd) : Prop where
  z : (Plan.first, []) ∈ found
  t : ∀ e ∈ found, ∃ g, p.readT j Plan.first e.2 = some (e.1, g)
  sub : ∀ e ∈ lineE, e ∈ found
  srt : lineE.Pairwise fun a b => a.2.length ≤ b.2.length
  lv : ∃ L, (∀ e ∈ lineE, L ≤ e.2.length) ∧ ∀ e ∈ found, e.2.length ≤ L + 1
  dn : ∀ e ∈ found, e ∈ lineE ∨ ∀ x, x < p.n → ∀ r, p.readSign j e.1 x = some r → ∃ e' ∈ found, e'.1 = r.1 ∧ e'.2.length ≤ e.2.length + 1
theorem BI.step {p : Plan} {j : Bool} {found lineE : Plan.Fnd} {e0 : Stg × List Nat} (nd : (found.map (·.1)).Nodup) (h : BI p j found (e0 :: lineE)) : ∃ lineE', ((List.range p.n).foldl (p.sAdd j e0.1) (found, lineE.map (·.1))).2 = lineE'.map (·.1) ∧ BI p j ((List.range p.n).foldl (p.sAdd j e0.1) (found, lineE.map (·.1))).1 lineE' := by
  have h0 := h.sub e0 List.mem_cons_self
  have hk : e0.1 ∈ found.map (·.1) := List.mem_map.mpr ⟨e0, h0, rfl⟩
  obtain ⟨new, h1, h2, h3, h4⟩ := sFold_spec (p := p) (j := j) (List.range p.n) (q := (found, lineE.map (·.1))) hk
  rw [h1, h2]
  have hT : Plan.getT found e0.1 = e0.2 := getT_eq nd h0
  obtain ⟨L, l1, l2⟩ := h.lv
  have hsrt := h.srt
  rw [List.pairwise_cons] at hsrt
  have hL := l1 e0 List.mem_cons_self
  have hnew : ∀ e ∈ new, e.2.length = e0.2.length + 1 := fun e he => by
    obtain ⟨x, _, hx, _⟩ := h3 e he
    rw [hx]
    show (Plan.getT found e0.1 ++ [x]).length = _
    rw [hT, List.length_append]; rfl
  have hall : ∀ e ∈ found ++ new, e.2.length ≤ e0.2.length + 1 := fun e he => by
    rcases List.mem_append.mp he with he | he
    · have := l2 e he; omega
    · rw [hnew e he]; exact Nat.le_refl _
  refine ⟨lineE ++ new, by rw [List.map_append], ?_⟩
  refine ⟨List.mem_append_left _ h.z, fun e he => ?_, fun e he => ?_, ?_, ⟨e0.2.length, fun e he => ?_, hall⟩, fun e he => ?_⟩
  · rcases List.mem_append.mp he with he | he
    · exact h.t e he
    · obtain ⟨x, _, hx, g', hg'⟩ := h3 e he
      obtain ⟨g, hg⟩ := h.t e0 h0
      rw [hx]
      show ∃ g, p.readT j Plan.first (Plan.getT found e0.1 ++ [x]) = _
      rw [hT, readT_app, hg, Option.bind_some, readT_one, hg']
      exact ⟨_, rfl⟩
  · rcases List.mem_append.mp he with he | he
    · exact List.mem_append_left _ (h.sub e (List.mem_cons_of_mem _ he))
    · exact List.mem_append_right _ he
  · rw [List.pairwise_append]
    refine ⟨hsrt.2, ?_, fun a ha b hb => ?_⟩
    · have : ∀ (ns : Plan.Fnd), (∀ e ∈ ns, e.2.length = e0.2.length + 1) → ns.Pairwise fun a b => a.2.length ≤ b.2.length := by
        intro ns
        induction ns with
        | nil => intro _; exact List.Pairwise.nil
        | cons y ns ih =>
          intro hn
          rw [List.pairwise_cons]
          exact ⟨fun b hb => by rw [hn y List.mem_cons_self, hn b (List.mem_cons_of_mem _ hb)]; exact Nat.le_refl _, ih fun e he => hn e (List.mem_cons_of_mem _ he)⟩
      exact this new hnew
    · rw [hnew b hb]
      exact hall a (List.mem_append_left _ (h.sub a (List.mem_cons_of_mem _ ha)))
  · rcases List.mem_append.mp he with he | he
    · exact hsrt.1 e he
    · rw [hnew e he]; omega
  · rcases List.mem_append.mp he with he | he
    · rcases h.dn e he with hd | hd
      · rcases List.mem_cons.mp hd with rfl | hd
        · refine .inr fun x hx r hr => ?_
          obtain ⟨e', he', hee⟩ := List.mem_map.mp (h4 x (List.mem_range.mpr hx) r hr)
          exact ⟨e', he', hee, hall e' he'⟩
        · exact .inl (List.mem_append_left _ hd)
      · refine .inr fun x hx r hr => ?_
        obtain ⟨e', he', hee⟩ := hd x hx r hr
        exact ⟨e', List.mem_append_left _ he', hee⟩
    · exact .inl (List.mem_append_right _ he)
theorem sGo_spec {p : Plan} (ok : p.Ok) {j : Bool} : ∀ (f : Nat) {found lineE : Plan.Fnd}, BI p j found lineE → SI p found (lineE.map (·.1)) → lineE.length + Plan.bS ≤ f + found.length → BI p j (p.sGo j f found (lineE.map (·.1))) [] ∧ SI p (p.sGo j f found (lineE.map (·.1))) []
  | 0, found, lineE, h, hs, hf => by
    have := hs.few ok
    have : lineE = [] := List.length_eq_zero_iff.mp (by omega)
    subst this
    exact ⟨h, hs⟩
  | f + 1, found, [], h, hs, hf => ⟨h, hs⟩
  | f + 1, found, e0 :: lineE, h, hs, hf => by
    obtain ⟨lineE', h1, h2⟩ := h.step hs.nd
    have hk : e0.1 ∈ found.map (·.1) := List.mem_map.mpr ⟨e0, h.sub e0 List.mem_cons_self, rfl⟩
    have hs' : SI p found (lineE.map (·.1)) := ⟨hs.nd, hs.ok, hs.tx, fun s h => hs.sub s (List.mem_cons_of_mem _ h)⟩
    obtain ⟨g1, g2, g3⟩ := SI.fold ok (j := j) (s := e0.1) (List.range p.n) (q := (found, lineE.map (·.1))) hs' hk fun x hx => List.mem_range.mp hx
    show BI p j (p.sGo j f ((List.range p.n).foldl (p.sAdd j e0.1) (found, lineE.map (·.1))).1 ((List.range p.n).foldl (p.sAdd j e0.1) (found, lineE.map (·.1))).2) [] ∧ SI p (p.sGo j f ((List.range p.n).foldl (p.sAdd j e0.1) (found, lineE.map (·.1))).1 ((List.range p.n).foldl (p.sAdd j e0.1) (found, lineE.map (·.1))).2) []
    rw [h1] at g1 g3 ⊢
    refine sGo_spec ok f h2 g1 ?_
    have g3 : (lineE'.map (·.1)).length + found.length = (lineE.map (·.1)).length + _ := g3
    rw [List.length_map, List.length_map] at g3
    rw [List.length_cons] at hf
    omega
/-- what is known of the standings -/
structure StF (p : Plan) (j : Bool) (st : Plan.Fnd) : Prop where
  si : SI p st []
  z : (Plan.first, []) ∈ st
  t : ∀ e ∈ st, ∃ g, p.readT j Plan.first e.2 = some (e.1, g)
  dn : ∀ e ∈ st, ∀ x, x < p.n → ∀ r, p.readSign j e.1 x = some r → ∃ e' ∈ st, e'.1 = r.1 ∧ e'.2.length ≤ e.2.length + 1
theorem standings_spec {p : Plan} (ok : p.Ok) (j : Bool) : StF p j (p.standings j) := by
  have h : BI p j [(Plan.first, [])] [(Plan.first, [])] := ⟨List.mem_cons_self, fun e he => by rw [List.mem_singleton.mp he]; exact ⟨[], rfl⟩, fun e he => he, List.pairwise_singleton _ _, ⟨0, fun _ _ => Nat.zero_le _, fun e he => by rw [List.mem_singleton.mp he]; exact Nat.zero_le _⟩, fun e he => .inl he⟩
  have hs : SI p [(Plan.first, [])] [Plan.first] := ⟨by simp, fun e he => by rw [List.mem_singleton.mp he]; exact first_ok p, fun e he => by rw [List.mem_singleton.mp he]; exact ⟨(fun _ z => nomatch z), Nat.one_pos⟩, fun s hs => by simpa using hs⟩
  obtain ⟨h1, h2⟩ := sGo_spec ok Plan.bS h hs (by show 1 + Plan.bS ≤ Plan.bS + 1; omega)
  exact ⟨h2, h1.z, h1.t, fun e he => (h1.dn e he).resolve_left (fun z => nomatch z)⟩
theorem StF.reach {p : Plan} {j : Bool} {st : Plan.Fnd} (h : StF p j st) : ∀ (a : List Nat) {e : Stg × List Nat} {S : Stg} {g : List Nat}, e ∈ st → (∀ x ∈ a, x < p.n) → p.readT j e.1 a = some (S, g) → ∃ e' ∈ st, e'.1 = S ∧ e'.2.length ≤ e.2.length + a.length
  | [], e, S, g, he, _, hr => by cases hr; exact ⟨e, he, rfl, Nat.le_refl _⟩
  | x :: a, e, S, g, he, hx, hr => by
    rw [readT_cons] at hr
    cases er : p.readSign j e.1 x with
    | none => rw [er] at hr; cases hr
    | some r =>
      rw [er, Option.bind_some] at hr
      obtain ⟨q, hq, eq⟩ := Option.map_eq_some_iff.mp hr
      obtain ⟨e', he', e1, l1⟩ := h.dn e he x (hx x List.mem_cons_self) r er
      cases eq
      rw [← e1] at hq
      obtain ⟨e2, he2, e3, l3⟩ := h.reach a he' (fun y hy => hx y (List.mem_cons_of_mem _ hy)) hq
      exact ⟨e2, he2, e3, by rw [List.length_cons]; omega⟩
end W3
end
section
set_option Elab.async false
set_option linter.all false
set_option maxRecDepth 100000
set_option maxHeartbeats 1000000
/-! N5: plain facts: the search for seams. -/
namespace W3
open Pl
theorem jAdd_inl {p : Plan} {j : Bool} {e : Plan.Ent} : ∀ (xs : List Nat) {q q' : List Seam × List Plan.Ent}, p.jAdd j e q xs = .inl q' → ∃ new : List Plan.Ent, q'.1 = q.1 ++ new.map (·.1) ∧ q'.2 = q.2 ++ new ∧ (∀ e' ∈ new, e'.1 ∉ q.1 ∧ e'.2.1 = e.2.1 ∧ ∃ x ∈ xs, e'.2.2 = e.2.2 ++ [x] ∧ p.behind j e.1 x = some (some e'.1)) ∧ ∀ x ∈ xs, p.behind j e.1 x = none ∨ ∃ r, p.behind j e.1 x = some (some r) ∧ r ∈ q'.1
  | [], q, q', h => by
    cases h
    exact ⟨[], by simp, by simp, (fun _ z => nomatch z), (fun _ z => nomatch z)⟩
  | x :: xs, q, q', h => by
    unfold Plan.jAdd at h
    cases eb : p.behind j e.1 x with
    | none =>
      rw [eb] at h
      obtain ⟨new, h1, h2, h3, h4⟩ := jAdd_inl xs h
      refine ⟨new, h1, h2, fun e' he' => ?_, fun y hy => ?_⟩
      · obtain ⟨a, b, y, hy, c⟩ := h3 e' he'
        exact ⟨a, b, y, List.mem_cons_of_mem _ hy, c⟩
      · rcases List.mem_cons.mp hy with rfl | hy
        · exact .inl eb
        · exact h4 y hy
    | some o =>
      cases o with
      | none => rw [eb] at h; cases h
      | some r =>
        rw [eb] at h
        dsimp only at h
        by_cases hm : r ∈ q.1
        · rw [if_pos hm] at h
          obtain ⟨new, h1, h2, h3, h4⟩ := jAdd_inl xs h
          refine ⟨new, h1, h2, fun e' he' => ?_, fun y hy => ?_⟩
          · obtain ⟨a, b, y, hy, c⟩ := h3 e' he'
            exact ⟨a, b, y, List.mem_cons_of_mem _ hy, c⟩
          · rcases List.mem_cons.mp hy with rfl | hy
            · exact .inr ⟨r, eb, by rw [h1]; exact List.mem_append_left _ hm⟩
            · exact h4 y hy
        · rw [if_neg hm] at h
          obtain ⟨new, h1, h2, h3, h4⟩ := jAdd_inl xs (q := (q.1 ++ [r], q.2 ++ [(r, e.2.1, e.2.2 ++ [x])])) h
          have h1 : q'.1 = q.1 ++ [r] ++ new.map (·.1) := h1
          have h2 : q'.2 = q.2 ++ [(r, e.2.1, e.2.2 ++ [x])] ++ new := h2
          refine ⟨(r, e.2.1, e.2.2 ++ [x]) :: new, by rw [h1]; simp, by rw [h2]; simp, fun e' he' => ?_, fun y hy => ?_⟩
          · rcases List.mem_cons.mp he' with rfl | he'
            · exact ⟨hm, rfl, x, List.mem_cons_self, rfl, eb⟩
            · obtain ⟨a, b, y, hy, c⟩ := h3 e' he'
              exact ⟨fun z => a (List.mem_append_left _ z), b, y, List.mem_cons_of_mem _ hy, c⟩
          · rcases List.mem_cons.mp hy with rfl | hy
            · exact .inr ⟨r, eb, by rw [h1]; exact List.mem_append_left _ (List.mem_append_right _ List.mem_cons_self)⟩
            · exact h4 y hy
theorem jAdd_inr {p : Plan} {j : Bool} {e : Plan.Ent} : ∀ (xs : List Nat) {q : List Seam × List Plan.Ent} {b : List Nat × List Nat}, p.jAdd j e q xs = .inr b → ∃ x ∈ xs, b = (e.2.1, e.2.2 ++ [x]) ∧ p.behind j e.1 x = some none
  | [], q, b, h => by cases h
  | x :: xs, q, b, h => by
    have up : (∃ y ∈ xs, b = (e.2.1, e.2.2 ++ [y]) ∧ p.behind j e.1 y = some none) → ∃ y ∈ x :: xs, b = (e.2.1, e.2.2 ++ [y]) ∧ p.behind j e.1 y = some none := fun ⟨y, hy, z⟩ => ⟨y, List.mem_cons_of_mem _ hy, z⟩
    unfold Plan.jAdd at h
    cases eb : p.behind j e.1 x with
    | none => rw [eb] at h; exact up (jAdd_inr xs h)
    | some o =>
      cases o with
      | none => rw [eb] at h; cases h; exact ⟨x, List.mem_cons_self, rfl, eb⟩
      | some r =>
        rw [eb] at h
        dsimp only at h
        by_cases hm : r ∈ q.1
        · rw [if_pos hm] at h; exact up (jAdd_inr xs h)
        · rw [if_neg hm] at h; exact up (jAdd_inr xs h)
theorem pick_some {line : List Plan.Ent} (h : line ≠ []) : ∃ e, line[Plan.pick line]? = some e ∧ e ∈ line ∧ ∀ e' ∈ line, Plan.eLen e ≤ Plan.eLen e' := by
  have h1 := pick_lt h
  refine ⟨line[Plan.pick line], List.getElem?_eq_getElem h1, List.getElem_mem h1, fun e' he' => ?_⟩
  have h2 : Plan.eLen line[Plan.pick line] = Plan.minL (line.map Plan.eLen) := by
    have hne : line.map Plan.eLen ≠ [] := by simpa using h
    have hm := minL_mem hne
    have h3 := List.getElem_idxOf (List.idxOf_lt_length_iff.mpr hm)
    rw [List.getElem_map] at h3
    exact h3
  rw [h2]
  exact minL_le _ (List.mem_map.mpr ⟨e', he', rfl⟩)
theorem pick_none {line : List Plan.Ent} (h : line[Plan.pick line]? = none) : line = [] := by
  by_cases hl : line = []
  · exact hl
  · obtain ⟨e, he, _⟩ := pick_some hl
    rw [he] at h; cases h
theorem mem_erase {α : Type} {xs : List α} {k : Nat} {a b : α} (h : xs[k]? = some a) (hb : b ∈ xs) (hne : b ≠ a) : b ∈ xs.eraseIdx k := by
  obtain ⟨i, hi⟩ := List.getElem?_of_mem hb
  rw [List.mem_eraseIdx_iff_getElem?]
  exact ⟨i, fun z => hne (by rw [z, h] at hi; injection hi with hi; exact hi.symm), hi⟩
/-- what comes behind is known, not too dear -/
def GB (found : List Seam) (D : Seam → Nat) (d : Nat) (o : Option (Option Seam)) : Prop := o = none ∨ ∃ r, o = some (some r) ∧ r ∈ found ∧ D r ≤ d + 1
/-- an entry that stands for a cut -/
structure VE (p : Plan) (j : Bool) (start : Nat) (st : Plan.Fnd) (e : Plan.Ent) : Prop where
  r : ∃ S ga gw gp, p.readT j Plan.first e.2.1 = some (S, ga) ∧ WSm p j S e.2.2 e.1 gw gp
  a : ∀ x ∈ e.2.1, x < p.n
  b : ∀ x ∈ e.2.2, x < p.n
  s : e.2.2 = [] ∨ e.2.2.take 1 = [start]
structure JQ (p : Plan) (j : Bool) (start : Nat) (st : Plan.Fnd) (found : List Seam) (line : List Plan.Ent) (D : Seam → Nat) (L : Nat) : Prop where
  lo : ∀ e ∈ line, L ≤ Plan.eLen e
  hi : ∀ m ∈ found, D m ≤ L + 1
  dn : ∀ m ∈ found, (∃ e ∈ line, e.1 = m ∧ e.2.2 ≠ [] ∧ Plan.eLen e = D m) ∨ ∀ x, x < p.n → GB found D (D m) (p.behind j m x)
  bg : ∀ s ∈ st, (p.cutAt j s.1, s.2, []) ∈ line ∨ GB found D s.2.length (p.behind j (p.cutAt j s.1) start)
  ve : ∀ e ∈ line, VE p j start st e
theorem GB.mono {found found' : List Seam} {D D' : Seam → Nat} {d d' : Nat} {o : Option (Option Seam)} (h : GB found D d o) (hf : ∀ m ∈ found, m ∈ found' ∧ D' m = D m) (hd : d ≤ d') : GB found' D' d' o := by
  rcases h with h | ⟨r, h, hr, hl⟩
  · exact .inl h
  · have := hf r hr
    exact .inr ⟨r, h, this.1, by rw [this.2]; omega⟩
theorem JQ.step {p : Plan} (ok : p.Ok) {j : Bool} {start : Nat} (hst : start < p.n) {st : Plan.Fnd} {found : List Seam} {line : List Plan.Ent} {D : Seam → Nat} {L : Nat} (h : JQ p j start st found line D L) {e : Plan.Ent} (he : line[Plan.pick line]? = some e) {q : List Seam × List Plan.Ent} (hq : p.jAdd j e (found, line.eraseIdx (Plan.pick line)) (p.signs start e.2.2) = .inl q) : ∃ D' L', JQ p j start st q.1 q.2 D' L' := by
  have hel : e ∈ line := List.mem_of_getElem? he
  have hne : line ≠ [] := fun z => by rw [z] at hel; cases hel
  obtain ⟨e', he', _, hmin⟩ := pick_some hne
  rw [he] at he'; cases he'
  obtain ⟨new, h1, h2, h3, h4⟩ := jAdd_inl _ hq
  have h1 : q.1 = found ++ new.map (·.1) := h1
  have h2 : q.2 = line.eraseIdx (Plan.pick line) ++ new := h2
  have hL := h.lo e hel
  have hsub : ∀ m ∈ found, m ∈ q.1 ∧ (if m ∈ found then D m else Plan.eLen e + 1) = D m := fun m hm => ⟨by rw [h1]; exact List.mem_append_left _ hm, if_pos hm⟩
  have hhi : ∀ m ∈ q.1, (if m ∈ found then D m else Plan.eLen e + 1) ≤ Plan.eLen e + 1 := fun m _ => by
    by_cases hm : m ∈ found
    · rw [if_pos hm]; have := h.hi m hm; omega
    · rw [if_neg hm]; exact Nat.le_refl _
  have hev := h.ve e hel
  have hnl : ∀ e' ∈ new, Plan.eLen e' = Plan.eLen e + 1 := fun e' he' => by
    obtain ⟨_, b, x, _, c, _⟩ := h3 e' he'
    unfold Plan.eLen
    rw [b, c, List.length_append, List.length_singleton]; omega
  have hgb : ∀ x ∈ p.signs start e.2.2, GB q.1 (fun m => if m ∈ found then D m else Plan.eLen e + 1) (Plan.eLen e) (p.behind j e.1 x) := fun x hx => by
    rcases h4 x hx with h4 | ⟨r, h4, hr⟩
    · exact .inl h4
    · exact .inr ⟨r, h4, hr, hhi r hr⟩
  refine ⟨fun m => if m ∈ found then D m else Plan.eLen e + 1, Plan.eLen e, ⟨fun e' he' => ?_, hhi, fun m hm => ?_, fun s hs => ?_, fun e' he' => ?_⟩⟩
  · rw [h2] at he'
    rcases List.mem_append.mp he' with he' | he'
    · exact hmin e' (List.mem_of_mem_eraseIdx he')
    · rw [hnl e' he']; omega
  · rw [h1] at hm
    by_cases hf : m ∈ found
    · simp only [if_pos hf]
      rcases h.dn m hf with ⟨e', he', a, b, c⟩ | hd
      · by_cases hee : e' = e
        · refine .inr fun x hx => ?_
          have hs : p.signs start e.2.2 = List.range p.n := by unfold Plan.signs; rw [if_pos (hee ▸ b)]
          have := hgb x (by rw [hs]; exact List.mem_range.mpr hx)
          rw [← a, hee] at c
          rw [← a, hee, ← c]; exact this
        · exact .inl ⟨e', by rw [h2]; exact List.mem_append_left _ (mem_erase he he' hee), a, b, c⟩
      · exact .inr fun x hx => (hd x hx).mono hsub (Nat.le_refl _)
    · simp only [if_neg hf]
      have hm : m ∈ new.map (·.1) := (List.mem_append.mp hm).resolve_left hf
      obtain ⟨e', he', rfl⟩ := List.mem_map.mp hm
      obtain ⟨_, _, x, _, c, _⟩ := h3 e' he'
      exact .inl ⟨e', by rw [h2]; exact List.mem_append_right _ he', rfl, by rw [c]; simp, hnl e' he'⟩
  · rcases h.bg s hs with hb | hb
    · by_cases hee : (p.cutAt j s.1, s.2, ([] : List Nat)) = e
      · have := hgb start (by rw [← hee]; simp [Plan.signs])
        rw [← hee] at this
        simp only [Plan.eLen, List.length_nil, Nat.add_zero] at this
        refine .inr ?_
        rw [← hee]
        exact this
      · exact .inl (by rw [h2]; exact List.mem_append_left _ (mem_erase he hb hee))
    · exact .inr (hb.mono hsub (Nat.le_refl _))
  · rw [h2] at he'
    rcases List.mem_append.mp he' with he' | he'
    · exact h.ve e' (List.mem_of_mem_eraseIdx he')
    · obtain ⟨_, b, x, hx, c, d⟩ := h3 e' he'
      obtain ⟨S, ga, gw, gp, r1, r2⟩ := hev.r
      have hxn : x < p.n := by
        unfold Plan.signs at hx
        split at hx
        · exact List.mem_range.mp hx
        · rw [List.mem_singleton.mp hx]; exact hst
      refine ⟨?_, by rw [b]; exact hev.a, fun y hy => ?_, .inr ?_⟩
      · rcases behind_step ok r2 x with ⟨z, _⟩ | ⟨z, _⟩ | ⟨r, gw', gp', z, hw, _⟩
        · rw [z] at d; cases d
        · rw [z] at d; cases d
        · rw [z] at d; cases d
          rw [b, c]
          exact ⟨S, ga, gw', gp', r1, hw⟩
      · rw [c] at hy
        rcases List.mem_append.mp hy with hy | hy
        · exact hev.b y hy
        · rw [List.mem_singleton.mp hy]; exact hxn
      · rw [c]
        by_cases h0 : e.2.2 = []
        · rw [h0] at hx ⊢
          have : x = start := by simpa [Plan.signs] using hx
          rw [this]; rfl
        · rcases hev.s with hs | hs
          · exact absurd hs h0
          · rw [List.take_append_of_le_length (by cases hq : e.2.2 with
              | nil => exact absurd hq h0
              | cons _ _ => simp), hs]
/-- the walk that breaks is not shorter than what the line offers -/
theorem JQ.walk {p : Plan} {j : Bool} {start : Nat} {st : Plan.Fnd} {found : List Seam} {line : List Plan.Ent} {D : Seam → Nat} {L : Nat} (h : JQ p j start st found line D L) : ∀ (xs : List Nat) {m : Seam} {c : Nat}, m ∈ found → D m ≤ c → (∀ x ∈ xs, x < p.n) → p.seamGo j m xs = some none → ∃ e ∈ line, Plan.eLen e + 1 ≤ c + xs.length
  | [], m, c, _, _, _, hg => by cases hg
  | x :: xs, m, c, hm, hc, hx, hg => by
    rcases h.dn m hm with ⟨e, he, _, _, hl⟩ | hd
    · exact ⟨e, he, by rw [List.length_cons]; omega⟩
    · unfold Plan.seamGo at hg
      rcases hd x (hx x List.mem_cons_self) with hb | ⟨r, hb, hr, hl⟩
      · rw [hb] at hg; cases hg
      · rw [hb] at hg
        obtain ⟨e, he, hl⟩ := h.walk xs (c := c + 1) hr (by omega) (fun y hy => hx y (List.mem_cons_of_mem _ hy)) hg
        exact ⟨e, he, by rw [List.length_cons]; omega⟩
/-- a cut at a start that is not harmless -/
structure Bad (p : Plan) (j : Bool) (start : Nat) (a b : List Nat) : Prop where
  t : p.wrongAt (a ++ b) = none
  s : b.take 1 = [start]
  f : p.lawFine j a b = false
theorem JQ.bad {p : Plan} (ok : p.Ok) {j : Bool} {start : Nat} {st : Plan.Fnd} (hS : StF p j st) {found : List Seam} {line : List Plan.Ent} {D : Seam → Nat} {L : Nat} (h : JQ p j start st found line D L) {a b : List Nat} (hb : Bad p j start a b) : ∃ e ∈ line, Plan.eLen e + 1 ≤ a.length + b.length := by
  obtain ⟨S, ga, ea, hg⟩ := bad_go ok hb.t hb.f
  have hlt := ((tame_iff p j _).mp hb.t).1
  obtain ⟨s, hs, e1, l1⟩ := hS.reach a hS.z (fun x hx => hlt x (List.mem_append_left _ hx)) ea
  have l1 : s.2.length ≤ a.length := by simpa using l1
  have hb2 := hb.s
  have hlb := fun x hx => hlt x (List.mem_append_right a hx)
  cases b with
  | nil => cases hb2
  | cons y bs =>
    have : y = start := by simpa using hb2
    subst this
    rcases h.bg s hs with hl | hgb
    · exact ⟨_, hl, by simp only [Plan.eLen, List.length_nil, List.length_cons]; omega⟩
    · unfold Plan.seamGo at hg
      rw [← e1] at hg
      rcases hgb with hb | ⟨r, hb, hr, hd⟩
      · rw [hb] at hg; cases hg
      · rw [hb] at hg
        obtain ⟨e, he, hl⟩ := h.walk bs (c := s.2.length + 1) hr hd (fun x hx => hlb x (List.mem_cons_of_mem _ hx)) hg
        exact ⟨e, he, by rw [List.length_cons]; omega⟩
theorem VE.bad {p : Plan} (ok : p.Ok) {j : Bool} {start : Nat} (hst : start < p.n) {st : Plan.Fnd} {e : Plan.Ent} (h : VE p j start st e) {x : Nat} (hx : x ∈ p.signs start e.2.2) (hb : p.behind j e.1 x = some none) : Bad p j start e.2.1 (e.2.2 ++ [x]) := by
  obtain ⟨S, ga, gw, gp, r1, r2⟩ := h.r
  have hxn : x < p.n := by
    unfold Plan.signs at hx
    split at hx
    · exact List.mem_range.mp hx
    · rw [List.mem_singleton.mp hx]; exact hst
  rcases behind_step ok r2 x with ⟨z, _⟩ | ⟨_, W, P, gw', gp', hw, hp, hne⟩ | ⟨r, _, _, z, _, _⟩
  · rw [z] at hb; cases hb
  · refine ⟨(tame_iff p j _).mpr ⟨fun y hy => ?_, ?_⟩, ?_, ?_⟩
    · rcases List.mem_append.mp hy with hy | hy
      · exact h.a y hy
      · rcases List.mem_append.mp hy with hy | hy
        · exact h.b y hy
        · rw [List.mem_singleton.mp hy]; exact hxn
    · rw [readT_app, r1, Option.bind_some, hw]; rfl
    · by_cases h0 : e.2.2 = []
      · rw [h0] at hx ⊢
        have : x = start := by simpa [Plan.signs] using hx
        rw [this]; rfl
      · rcases h.s with hs | hs
        · exact absurd hs h0
        · rw [List.take_append_of_le_length (by cases hq : e.2.2 with
            | nil => exact absurd hq h0
            | cons _ _ => simp), hs]
    · rw [fine_read ok r1 hw hp]
      exact decide_eq_false hne
  · rw [z] at hb; cases hb
theorem jGo_spec {p : Plan} (ok : p.Ok) {j : Bool} {start : Nat} (hst : start < p.n) {st : Plan.Fnd} (hS : StF p j st) : ∀ (f : Nat) {found : List Seam} {line : List Plan.Ent} {D : Seam → Nat} {L : Nat}, JQ p j start st found line D L → JI p j found line → line.length + Plan.bJ ≤ f + found.length → (∀ fo, p.jGo j start f found line = .inl fo → (∃ D L, JQ p j start st fo [] D L) ∧ JI p j fo []) ∧ ∀ b, p.jGo j start f found line = .inr b → Bad p j start b.1 b.2 ∧ ∀ a' b', Bad p j start a' b' → b.1.length + b.2.length ≤ a'.length + b'.length
  | 0, found, line, D, L, h, hi, hf => by
    have := hi.few ok
    have : line = [] := List.length_eq_zero_iff.mp (by omega)
    subst this
    exact ⟨fun fo e => by cases e; exact ⟨⟨D, L, h⟩, hi⟩, fun b e => by cases e⟩
  | f + 1, found, line, D, L, h, hi, hf => by
    unfold Plan.jGo
    cases he : line[Plan.pick line]? with
    | none =>
      have : line = [] := pick_none he
      subst this
      exact ⟨fun fo e => by cases e; exact ⟨⟨D, L, h⟩, hi⟩, fun b e => by cases e⟩
    | some e =>
      dsimp only
      have hel : e ∈ line := List.mem_of_getElem? he
      have hne : line ≠ [] := fun z => by rw [z] at hel; cases hel
      have hsg : ∀ x ∈ p.signs start e.2.2, x < p.n := fun x hx => by
        unfold Plan.signs at hx
        split at hx
        · exact List.mem_range.mp hx
        · rw [List.mem_singleton.mp hx]; exact hst
      cases ea : p.jAdd j e (found, line.eraseIdx (Plan.pick line)) (p.signs start e.2.2) with
      | inr b =>
        refine ⟨(fun fo z => nomatch z), fun b' z => ?_⟩
        cases z
        obtain ⟨x, hx, rfl, hb⟩ := jAdd_inr _ ea
        refine ⟨(h.ve e hel).bad ok hst hx hb, fun a' b' hb' => ?_⟩
        obtain ⟨e1, he1, hl⟩ := h.bad ok hS hb'
        obtain ⟨e2, he2, _, hmin⟩ := pick_some hne
        rw [he] at he2; cases he2
        have := hmin e1 he1
        unfold Plan.eLen at this hl
        show e.2.1.length + (e.2.2 ++ [x]).length ≤ _
        rw [List.length_append, List.length_singleton]
        omega
      | inl q =>
        obtain ⟨D', L', hq⟩ := h.step ok hst he ea
        have hi' : JI p j found (line.eraseIdx (Plan.pick line)) := ⟨hi.nd, hi.ok, fun e' he' => hi.ln e' (List.mem_of_mem_eraseIdx he')⟩
        obtain ⟨g1, g2⟩ := jAdd_ok ok _ (q := (found, line.eraseIdx (Plan.pick line))) hi' (hi.ln e hel) hsg ea
        have g2 : q.2.length + found.length = (line.eraseIdx (Plan.pick line)).length + q.1.length := g2
        have g3 := List.length_eraseIdx_of_lt (pick_lt hne)
        have := List.length_pos_of_mem hel
        exact jGo_spec ok hst hS f hq g1 (by omega)
theorem begins_JQ {p : Plan} (ok : p.Ok) {j : Bool} {start : Nat} (hS : StF p j (p.standings j)) : JQ p j start (p.standings j) [] (p.begins j start) (fun _ => 0) 0 ∧ JI p j [] (p.begins j start) := by
  have hmem : ∀ e ∈ p.begins j start, ∃ s ∈ p.standings j, e = (p.cutAt j s.1, s.2, []) := fun e he => by
    obtain ⟨he, _⟩ := List.mem_filter.mp he
    obtain ⟨s, hs, rfl⟩ := List.mem_map.mp he
    exact ⟨s, hs, rfl⟩
  refine ⟨⟨fun _ _ => Nat.zero_le _, (fun _ z => nomatch z), (fun _ z => nomatch z), fun s hs => ?_, fun e he => ?_⟩, ⟨List.nodup_nil, (fun _ z => nomatch z), fun e he => ?_⟩⟩
  · cases eb : p.behind j (p.cutAt j s.1) start with
    | none => exact .inr (.inl rfl)
    | some o => exact .inl (List.mem_filter.mpr ⟨List.mem_map.mpr ⟨s, hs, rfl⟩, by rw [eb]; rfl⟩)
  · obtain ⟨s, hs, rfl⟩ := hmem e he
    obtain ⟨g, hg⟩ := hS.t s hs
    exact ⟨⟨s.1, g, [], [], hg, WSm.cut (readT_sc (r := (s.1, g)) ok (SC.first p) hg)⟩, (hS.si.tx s hs).1, (fun _ z => nomatch z), .inl rfl⟩
  · obtain ⟨s, hs, rfl⟩ := hmem e he
    have h1 := (hS.si.tx s hs)
    have h2 := hS.si.few ok
    exact ⟨⟨hS.si.ok s hs, first_ok p, cut_even p j s.1⟩, h1.1, by have : Plan.bS = 105 := rfl; show s.2.length ≤ 105; omega, (fun _ z => nomatch z), Nat.zero_le _⟩
/-- what the search for seams answers -/
theorem judged_spec {p : Plan} (ok : p.Ok) (j : Bool) {start : Nat} (hst : start < p.n) : (∀ fo, p.judged j start = .inl fo → (∃ D L, JQ p j start (p.standings j) fo [] D L) ∧ JI p j fo []) ∧ ∀ b, p.judged j start = .inr b → Bad p j start b.1 b.2 ∧ ∀ a' b', Bad p j start a' b' → b.1.length + b.2.length ≤ a'.length + b'.length := by
  have hS := standings_spec ok j
  obtain ⟨h1, h2⟩ := begins_JQ (start := start) ok hS
  exact jGo_spec ok hst hS _ h1 h2 (Nat.le_refl _)
end W3
end
section
set_option Elab.async false
set_option linter.all false
set_option maxRecDepth 100000
set_option maxHeartbeats 1000000
/-! N6: plain facts: what the law asks. -/
namespace W3
open Pl
theorem GB.bh {found : List Seam} {D : Seam → Nat} {d : Nat} {o : Option (Option Seam)} (h : GB found D d o) : Plan.bhIn found o = true := by
  rcases h with rfl | ⟨r, rfl, hr, _⟩
  · rfl
  · exact decide_eq_true hr
theorem GB.ne {found : List Seam} {D : Seam → Nat} {d : Nat} {o : Option (Option Seam)} (h : GB found D d o) : o ≠ some none := by
  rcases h with rfl | ⟨r, rfl, _, _⟩
  · exact fun z => nomatch z
  · exact fun z => nomatch z
theorem inl_gb {p : Plan} (ok : p.Ok) {j : Bool} {start : Nat} (hst : start < p.n) {fo : List Seam} (h : p.judged j start = .inl fo) : (∀ s ∈ (p.standings j).map (·.1), ∃ D d, GB fo D d (p.behind j (p.cutAt j s) start)) ∧ (∀ m ∈ fo, ∀ x, x < p.n → ∃ D d, GB fo D d (p.behind j m x)) ∧ (∀ m ∈ fo, p.isEven j m = true) := by
  obtain ⟨⟨D, L, hq⟩, hi⟩ := (judged_spec ok j hst).1 fo h
  refine ⟨fun s hs => ?_, fun m hm x hx => ?_, fun m hm => (hi.ok m hm).e⟩
  · obtain ⟨e, he, rfl⟩ := List.mem_map.mp hs
    exact ⟨D, _, (hq.bg e he).resolve_left (fun z => nomatch z)⟩
  · rcases hq.dn m hm with ⟨e, he, _⟩ | hd
    · cases he
    · exact ⟨D, _, hd x hx⟩
theorem inl_shows {p : Plan} (ok : p.Ok) {j : Bool} {start : Nat} (hst : start < p.n) {fo : List Seam} (h : p.judged j start = .inl fo) : p.showsS j start ((p.standings j).map (·.1)) fo = true := by
  obtain ⟨h1, h2, h3⟩ := inl_gb ok hst h
  have hS := standings_spec ok j
  unfold Plan.showsS
  rw [Bool.and_eq_true, Bool.and_eq_true, Bool.and_eq_true, Bool.and_eq_true]
  refine ⟨decide_eq_true (List.mem_map.mpr ⟨_, hS.z, rfl⟩), ?_, List.all_eq_true.mpr h3, ?_, ?_⟩
  · unfold Plan.closed
    rw [List.all_eq_true]
    intro s hs
    rw [List.all_eq_true]
    intro x hx
    obtain ⟨e, he, rfl⟩ := List.mem_map.mp hs
    unfold Plan.goesIn
    cases er : p.readSign j e.1 x with
    | none => rfl
    | some r =>
      obtain ⟨e', he', ee, _⟩ := hS.dn e he x (List.mem_range.mp hx) r er
      exact decide_eq_true (List.mem_map.mpr ⟨e', he', ee⟩)
  · rw [List.all_eq_true]
    intro s hs
    obtain ⟨D, d, g⟩ := h1 s hs
    exact g.bh
  · rw [List.all_eq_true]
    intro m hm
    rw [List.all_eq_true]
    intro x hx
    obtain ⟨D, d, g⟩ := h2 m hm x (List.mem_range.mp hx)
    exact g.bh
theorem inl_nobreak {p : Plan} (ok : p.Ok) {j : Bool} {start : Nat} (hst : start < p.n) {fo : List Seam} (h : p.judged j start = .inl fo) {sts : List Stg} {sms : List Seam} (ha : ∀ s ∈ sts, s ∈ (p.standings j).map (·.1)) (hb : ∀ m ∈ sms, m ∈ fo ∨ ∃ s, m = (s, Plan.first, [])) : NoBreak p j start sts sms := by
  obtain ⟨h1, h2, _⟩ := inl_gb ok hst h
  intro hp
  rw [Bool.and_eq_true, Bool.and_eq_true] at hp
  refine ⟨fun s hs => ?_, fun m hm x hx => ?_⟩
  · obtain ⟨D, d, g⟩ := h1 s (ha s hs)
    exact g.ne
  · rcases hb m hm with hm' | ⟨s, rfl⟩
    · obtain ⟨D, d, g⟩ := h2 m hm' x hx
      exact g.ne
    · have he : p.isEven j (s, Plan.first, []) = true := List.all_eq_true.mp hp.2.2 _ hm
      have he : p.held j s = [] := by simpa [Plan.isEven, Plan.held, Plan.first] using he
      have hs : s = Plan.first := by
        obtain ⟨b, ms⟩ := s
        cases b with
        | none => have he : ms = [] := he
                  rw [he]; rfl
        | some b => cases he
      subst hs
      unfold Plan.behind
      cases p.readSign j Plan.first x with
      | none => exact fun z => nomatch z
      | some f =>
        dsimp only
        rw [if_pos (by simp), if_pos (by simp [Plan.isEven])]
        exact fun z => by injection z with z; cases z
/-! ### pieces -/
theorem br_shows {p : Plan} (ok : p.Ok) (j : Bool) (start : Nat) (a b : List Nat) : BrShows p j start a b (p.lawBroken j start a b) := by
  unfold BrShows Plan.lawBroken
  cases hw : (p.wrongAt (a ++ b)).isNone with
  | false => rw [Bool.false_and, if_neg Bool.false_ne_true, Bool.false_and, Bool.and_false]
  | true =>
    have hw := Option.isNone_iff_eq_none.mp hw
    by_cases hs : b.take 1 = [start]
    · rw [decide_eq_true hs, Bool.true_and, if_pos rfl, Bool.true_and, Bool.true_and, Bool.not_not]
      exact ⟨wrongGo_lt hw, harm_fine ok j hw⟩
    · rw [decide_eq_false hs, Bool.true_and, if_neg Bool.false_ne_true, Bool.false_and]
theorem Bad.broken {p : Plan} {j : Bool} {start : Nat} {a b : List Nat} (h : Bad p j start a b) : p.lawBroken j start a b = true := by
  unfold Plan.lawBroken
  rw [h.s, h.t, h.f, decide_eq_true rfl]; rfl
theorem broken_bad {p : Plan} {j : Bool} {start : Nat} {a b : List Nat} (h : p.lawBroken j start a b = true) : Bad p j start a b := by
  unfold Plan.lawBroken at h
  rw [Bool.and_eq_true, Bool.and_eq_true] at h
  exact ⟨Option.isNone_iff_eq_none.mp h.2.1, of_decide_eq_true h.1, by simpa using h.2.2⟩
/-! ### the fewest signs -/
theorem lvl_all {p : Plan} : ∀ (m : Nat) (t : List Nat), t.length = m → p.wrongAt t = none → t ∈ p.lvl m
  | 0, t, h, _ => by rw [List.length_eq_zero_iff.mp h]; exact List.mem_cons_self
  | m + 1, t, h, ht => by
    have hne : t ≠ [] := fun z => by rw [z] at h; cases h
    have e := List.dropLast_concat_getLast hne
    generalize t.dropLast = u at e
    generalize t.getLast hne = s at e
    subst e
    have hu : u.length = m := by simpa using h
    refine List.mem_flatMap.mpr ⟨u, lvl_all m u hu (tame_left ht), List.mem_map.mpr ⟨s, List.mem_filter.mpr ⟨List.mem_range.mpr ?_, ?_⟩, rfl⟩⟩
    · exact wrongGo_lt ht s (List.mem_append_right _ List.mem_cons_self)
    · unfold Plan.kid; rw [ht]; rfl
theorem texts_all {p : Plan} : ∀ (m : Nat) (t : List Nat), t.length ≤ m → p.wrongAt t = none → t ∈ p.texts m
  | 0, t, h, _ => by rw [List.length_eq_zero_iff.mp (Nat.le_zero.mp h)]; exact List.mem_cons_self
  | m + 1, t, h, ht => by
    by_cases hl : t.length ≤ m
    · exact List.mem_append_left _ (texts_all m t hl ht)
    · exact List.mem_append_right _ (lvl_all (m + 1) t (by omega) ht)
theorem pw_same {xs : List (List Nat)} {m : Nat} (h : ∀ t ∈ xs, t.length = m) : xs.Pairwise fun a b => a.length ≤ b.length := by
  induction xs with
  | nil => exact List.Pairwise.nil
  | cons y ys ih =>
    rw [List.pairwise_cons]
    exact ⟨fun b hb => by rw [h y List.mem_cons_self, h b (List.mem_cons_of_mem _ hb)]; exact Nat.le_refl _, ih fun t ht => h t (List.mem_cons_of_mem _ ht)⟩
theorem texts_sorted {p : Plan} : ∀ (m : Nat), (p.texts m).Pairwise fun a b => a.length ≤ b.length
  | 0 => List.pairwise_singleton _ _
  | m + 1 => by
    show (p.texts m ++ p.lvl (m + 1)).Pairwise _
    rw [List.pairwise_append]
    refine ⟨texts_sorted m, pw_same fun t ht => (lvl_mem ht).1, fun a ha b hb => ?_⟩
    have h1 := (texts_mem ha).1
    have h2 := (lvl_mem hb).1
    omega
theorem find_least {P : List Nat → Bool} : ∀ {xs : List (List Nat)}, (xs.Pairwise fun a b => a.length ≤ b.length) → ∀ {t : List Nat}, xs.find? P = some t → ∀ u ∈ xs, P u = true → t.length ≤ u.length
  | [], _, t, h, u, hu, _ => by cases hu
  | y :: ys, hp, t, h, u, hu, hP => by
    rw [List.pairwise_cons] at hp
    rw [List.find?_cons] at h
    cases hy : P y with
    | true =>
      rw [hy] at h; cases h
      rcases List.mem_cons.mp hu with rfl | hu
      · exact Nat.le_refl _
      · exact hp.1 u hu
    | false =>
      rw [hy] at h
      rcases List.mem_cons.mp hu with rfl | hu
      · rw [hy] at hP; cases hP
      · exact find_least hp.2 h u hu hP
theorem take_drop_start {t : List Nat} {a start : Nat} (ha : a < t.length) (h : t.getD a 0 = start) : (t.drop a).take 1 = [start] := by
  rw [List.getD_eq_getElem?_getD, List.getElem?_eq_getElem ha] at h
  rw [List.drop_eq_getElem_cons ha]
  show [t[a]] = [start]
  rw [← h]; rfl
theorem bad_text {p : Plan} {j : Bool} {start : Nat} {t : List Nat} (ht : p.wrongAt t = none) (h : p.textBad j start t = true) : ∃ a b, Bad p j start a b ∧ a.length + b.length = t.length := by
  unfold Plan.textBad at h
  obtain ⟨a, ha, h⟩ := List.any_eq_true.mp h
  have ha := List.mem_range.mp ha
  unfold Plan.cutBad at h
  rw [Bool.and_eq_true] at h
  refine ⟨t.take a, t.drop a, ⟨by rw [List.take_append_drop]; exact ht, take_drop_start ha (of_decide_eq_true h.1), by simpa using h.2⟩, ?_⟩
  rw [List.length_take, List.length_drop]; omega
theorem text_bad {p : Plan} {j : Bool} {start : Nat} {a b : List Nat} (h : Bad p j start a b) : p.textBad j start (a ++ b) = true := by
  have hs := h.s
  cases b with
  | nil => cases hs
  | cons y bs =>
    have : y = start := by simpa using hs
    subst this
    unfold Plan.textBad
    rw [List.any_eq_true]
    refine ⟨a.length, List.mem_range.mpr (by rw [List.length_append, List.length_cons]; omega), ?_⟩
    unfold Plan.cutBad
    rw [getD_mid, List.take_left' rfl, List.drop_left' rfl, h.f, decide_eq_true rfl]; rfl
theorem fewest_none {p : Plan} {j : Bool} {start : Nat} (h : ∀ a b, ¬ Bad p j start a b) : p.fewest j start (p.texts 4) = none := by
  unfold Plan.fewest
  rw [Option.map_eq_none_iff, List.find?_eq_none]
  intro t ht hb
  obtain ⟨a, b, hab, _⟩ := bad_text (texts_mem ht).2 hb
  exact h a b hab
theorem inl_fewest {p : Plan} (ok : p.Ok) {j : Bool} {start : Nat} (hst : start < p.n) {fo : List Seam} (h : p.judged j start = .inl fo) : p.fewest j start (p.texts 4) = none := by
  obtain ⟨⟨D, L, hq⟩, _⟩ := (judged_spec ok j hst).1 fo h
  exact fewest_none fun a b hab => by
    obtain ⟨e, he, _⟩ := hq.bad ok (standings_spec ok j) hab
    cases he
theorem inr_fewest {p : Plan} (ok : p.Ok) {j : Bool} {start : Nat} (hst : start < p.n) {b : List Nat × List Nat} (h : p.judged j start = .inr b) : (∀ k, p.fewest j start (p.texts 4) = some k → k = b.1.length + b.2.length) ∧ (p.fewest j start (p.texts 4) = none → 5 ≤ b.1.length + b.2.length) := by
  obtain ⟨hb, hmin⟩ := (judged_spec ok j hst).2 b h
  have hin : b.1.length + b.2.length ≤ 4 → b.1 ++ b.2 ∈ p.texts 4 := fun hl => texts_all 4 _ (by rw [List.length_append]; exact hl) hb.t
  unfold Plan.fewest
  refine ⟨fun k hk => ?_, fun hk => ?_⟩
  · obtain ⟨t, ht, rfl⟩ := Option.map_eq_some_iff.mp hk
    have hm := List.mem_of_find?_eq_some ht
    have hP := List.find?_some ht
    obtain ⟨a', b', hab, hl⟩ := bad_text (texts_mem hm).2 hP
    have h1 := hmin a' b' hab
    have h2 := (texts_mem hm).1
    have h3 := find_least (texts_sorted 4) ht _ (hin (by omega)) (text_bad hb)
    rw [List.length_append] at h3
    omega
  · rw [Option.map_eq_none_iff, List.find?_eq_none] at hk
    by_cases hl : b.1.length + b.2.length ≤ 4
    · exact absurd (text_bad hb) (hk _ (hin hl))
    · omega
end W3
end
section
set_option Elab.async false
set_option linter.all false
set_option maxRecDepth 100000
set_option maxHeartbeats 2000000
/-! XK: the law's walks: pieces_right. -/
namespace W3
open PySem PySem.Spec PyProof.Rows L2 Pl
theorem cutD_last {xs : List Nat} : cutD (xs.map eN) none (some (-1)) = xs.dropLast.map eN := by
  unfold cutD
  rw [HT.sIx_none, List.length_map, List.drop_zero, Nat.sub_zero, List.dropLast_eq_take, List.map_take]
  congr 1
  unfold HT.sIx
  by_cases h : xs.length = 0
  · rw [h]; rfl
  · simp; omega
theorem len_big {n : Nat} (h : n ≤ 50000) : n ≤ sizeLine := le_line (by omega)
section
variable {M : Md} {CT CS CB : Addr} {f : Addr} {fd : FuncData}
/-! _law_pieces_right -/
def nLPieces : List Str := ["_law_draws", "_law_plan", "_law_way", "_law_table", "_law_start", "_law_found", "_law_one", "_law_other", "_law_odd", "_law_cases", "_law_first", "_law_second"]
def cLPieces (CT CB : Addr) : Ct := fun ds R => ∃ (p : Plan) (j : Bool) (start : Nat) (a b : List Nat), ds = [.dr, planD p, wayD j, tabD CT p, eN start, brokenD CB a b] ∧ p.Ok ∧ start < p.n ∧ a.length ≤ 105 ∧ b.length ≤ 11026 ∧ R (.bl true)
def eC (c : List Nat × List Nat) : D := .tup [eT c.1, eT c.2]
theorem ok_lpieces (fx : Fx M CT CS CB) (Tt : M.Fn "_law_take" 1 2 cLTake) (TB : MkT M.P M.w M.K M.mg M.base "Broken" CB 1 2 iBroken) (Ts : MtT M.P M.w M.K M.mg M.base CB "shows" 10 4 (cShowsB CT CB)) (Tb : M.Fn "_law_is_broken" 8 5 cLBroken) (Fd : FunD M.K "_law_pieces_right" "_law_pieces_right" (defArgs (top 70)) (defBody (top 70)) (defScope (top 70)) [] [] f fd) : FnOk M.P M.w M.K M.mg M.base CX0 11 f fd ["_law_draws", "_law_plan", "_law_way", "_law_table", "_law_start", "_law_found"] (spC M.P M.w M.K 6 (cLPieces CT CB)) := by
  refine fn_ok (N := nLPieces) nLPieces nLPieces ["_law_take", "len", "Broken", "list", "_law_is_broken"] Fd (C8.fnScope_by (by decide +kernel)) rfl (by decide +kernel) (by decide +kernel) (by decide +kernel) fun q F0 H0 C ds R hl h => ?_
  obtain ⟨p, j, start, a, b, rfl, ok, hst, ha, hb, h⟩ := h
  have lo1 : [(("one" : Str), eT a), (("other" : Str), eT b)].lookup ("other" : Str) = some (eT b) := by rw [look_ne (by decide +kernel)]; rfl
  have l6 : (defScope (top 70)).names.lookup ("_law_one" : Str) = some .local := by decide +kernel
  have l7 : (defScope (top 70)).names.lookup ("_law_other" : Str) = some .local := by decide +kernel
  have l8 : (defScope (top 70)).names.lookup ("_law_odd" : Str) = some .local := by decide +kernel
  have hbd : b.dropLast.length ≤ b.length := by rw [List.length_dropLast]; omega
  refine wb_cons (ws_par3 C lk6 lk7 lk8 (by decide) (by decide) (by decide) l6 l7 l8 (wd_fld (wd_var C lk5 mm5 ⟨_, _, _, rfl, fx.cB, fx.aB _ mm0, rfl, wd_fld (wd_var C lk5 mm5 ⟨_, _, _, rfl, fx.cB, fx.aB _ mm1, lo1, wd_fn Tt (by omega) C mm0 (wa_cons (wd_var C lk0 mm0 (wa_cons (wd_callB cd_lenT C mm1 fx.n_len b_len (wa_cons (wd_ix xd_tup (wd_var C lk1 mm1 (wd_int ⟨_, _, _, rfl, rfl, at_0, wa_nil ⟨_, rfl, wa_nil ⟨rfl, p.n, by rw [List.length_map]; rfl, ok.pos, fun odd hodd => ⟨_, _, _, pt6, pt7, pt8, ?_⟩⟩⟩⟩))))))))⟩)⟩)) rfl)
  have hlm : ∀ xs : List Nat, xs.length ≤ 12000 → ∀ ys : List Nat, ys.length ≤ 12000 → (xs.map eN).length + (ys.map eN).length ≤ sizeLine := fun xs hx ys hy => len_big (by rw [List.length_map, List.length_map]; omega)
  refine wb_via [.d .dr, .d (planD p), .d (wayD j), .d (tabD CT p), .d (eN start), .d (brokenD CB a b), .d (eT a), .d (eT b), .d (eN odd), .own ([(a, b.dropLast), (a.drop 1, b), (a, b ++ [odd]), (odd :: a, b), (a ++ b, []), (a, [9])].map eC), .no, .no] ?_ (wb_frzL pt9 pt9 ?_)
  · refine ws_set C lk9 mm9 (wv_f (wf_lst (wa_cons (wd_tup (wa_cons (wd_var C lk6 mm6 (wa_cons (wd_sliceT (POl := (· = none)) (POh := (· = some (-1))) (wd_var C lk7 mm7 ⟨_, rfl, ?_⟩) (wo_none rfl) (wo_some (wd_neg (wd_int ⟨_, rfl, _, rfl, rfl⟩)))))))))))
    rintro _ _ rfl rfl
    rw [cutD_last]
    refine wa_nil ⟨ln2, wa_cons (wd_tup (wa_cons (wd_sliceT (POl := (· = some ((1 : Nat) : Int))) (POh := (· = none)) (wd_var C lk6 mm6 ⟨_, rfl, ?_⟩) (wo_some (wd_int ⟨_, rfl, rfl⟩)) (wo_none rfl))))⟩
    rintro _ _ rfl rfl
    rw [cutD_drop]
    refine wa_cons (wd_var C lk7 mm7 (wa_nil ⟨ln2, wa_cons (wd_tup (wa_cons (wd_var C lk6 mm6 (wa_cons (wd_op od_cat (wd_var C lk7 mm7 (wd_tup (wa_cons (wd_var C lk8 mm8 (wa_nil ⟨ln1, _, _, rfl, rfl, hlm b (by omega) [odd] (by simp), wa_nil ⟨ln2, ?_⟩⟩))))))))))⟩))
    refine wa_cons (wd_tup (wa_cons (wd_op od_cat (wd_tup (wa_cons (wd_var C lk8 mm8 (wa_nil ⟨ln1, wd_var C lk6 mm6 ⟨_, _, rfl, rfl, hlm [odd] (by simp) a (by omega), wa_cons (wd_var C lk7 mm7 (wa_nil ⟨ln2, ?_⟩))⟩⟩)))))))
    refine wa_cons (wd_tup (wa_cons (wd_op od_cat (wd_var C lk6 mm6 (wd_var C lk7 mm7 ⟨_, _, rfl, rfl, hlm a (by omega) b (by omega), wa_cons (wd_tup (wa_nil ⟨Nat.zero_le _, wa_nil ⟨ln2, ?_⟩⟩))⟩)))))
    refine wa_cons (wd_tup (wa_cons (wd_var C lk6 mm6 (wa_cons (wd_tup (wa_cons (wd_int (wa_nil ⟨ln1, wa_nil ⟨ln2, wa_nil ⟨le_line (by simp), _, pt9, ?_⟩⟩⟩))))))))
    simp [eC]
  have hcs : ∀ c ∈ [(a, b.dropLast), (a.drop 1, b), (a, b ++ [odd]), (odd :: a, b), (a ++ b, []), (a, [9])], c.1.length ≤ 12000 ∧ c.2.length ≤ 12000 := by
    intro c hc
    simp only [List.mem_cons, List.not_mem_nil, or_false] at hc
    rcases hc with rfl | rfl | rfl | rfl | rfl | rfl <;> simp <;> omega
  generalize [(a, b.dropLast), (a.drop 1, b), (a, b ++ [odd]), (odd :: a, b), (a ++ b, []), (a, [9])] = cs at hcs ⊢
  refine wb_cons (ws_for (ns := [10, 11]) C (wi_lst (wd_var C lk9 mm9 ⟨_, rfl, fun i ρ' => ∃ s10 s11 : Sl, ρ' = [.d .dr, .d (planD p), .d (wayD j), .d (tabD CT p), .d (eN start), .d (brokenD CB a b), .d (eT a), .d (eT b), .d (eN odd), .d (.lst (cs.map eC)), s10, s11], ⟨_, _, rfl⟩, ?_, ?_⟩)))
  · rintro ρ' ⟨s10, s11, rfl⟩
    exact wb_one (ws_ret (wd_bl h))
  · rintro i d ρ1 ed ⟨s10, s11, rfl⟩
    have hi : i < cs.length := by have := (List.getElem?_eq_some_iff.mp ed).1; rwa [List.length_map] at this
    rw [List.getElem?_map, List.getElem?_eq_getElem hi] at ed
    cases ed
    have hc := hcs _ (List.getElem_mem hi)
    generalize cs[i] = c at hc ⊢
    obtain ⟨x, y⟩ := c
    obtain ⟨hx, hy⟩ := hc
    have hx : x.length ≤ 12000 := hx
    have hy : y.length ≤ 12000 := hy
    refine wg_tup C rfl (wgs_cons rfl (wg_name C lk10 mm10 pt10 rfl) (wgs_cons rfl (wg_name C lk11 mm11 pt11 rfl) (wgs_nil ?_))) rfl
    refine wb_one (ws_if (wt_cmp od_neB (wd_meth Ts (by omega) C (wd_make TB (by omega) C mm2 (wa_cons (wd_callTy cd_listL C mm3 fx.n_list b_list (wa_cons (wd_var C lk10 mm10 (wa_nil ⟨_, .inr rfl, wa_cons (wd_var C lk11 mm11 (wa_nil ⟨rfl, _, _, _, _, rfl, .inl rfl, .inr rfl, ?_⟩))⟩)))))))))
    refine ⟨_, rfl, rfl, wa_cons (wd_var C lk3 mm3 (wa_cons (wd_var C lk2 mm2 (wa_cons (wd_var C lk4 mm4 (wa_nil ⟨rfl, p, j, start, x, y, p.lawBroken j start x y, rfl, ok, hst, by omega, by omega, br_shows ok j start x y, ?_⟩))))))⟩
    refine wd_fn Tb (by omega) C mm4 (wa_cons (wd_var C lk1 mm1 (wa_cons (wd_var C lk2 mm2 (wa_cons (wd_var C lk4 mm4 (wa_cons (wd_var C lk10 mm10 (wa_cons (wd_var C lk11 mm11 (wa_nil ⟨rfl, p, j, start, x, y, rfl, ok, by omega, by omega, _, _, rfl, rfl, _, rfl, ?_⟩)))))))))))
    rw [decide_eq_true rfl]
    exact ite_f (wb_nil ⟨_, _, rfl⟩)
end
end W3
end
section
set_option Elab.async false
set_option linter.all false
set_option maxRecDepth 100000
set_option maxHeartbeats 2000000
/-! XL: the law's walks: start_right. -/
namespace W3
open PySem PySem.Spec PyProof.Rows L2 Pl
theorem cutD_takeG {ds : List D} {k : Nat} (h : k ≤ ds.length) : cutD ds none (some (k : Int)) = ds.take k := by
  unfold cutD
  rw [HT.sIx_none, HT.sIx_nat, List.drop_zero, Nat.sub_zero, Nat.min_eq_left h]
theorem cutD_dropG {ds : List D} {k : Nat} : cutD ds (some (k : Int)) none = ds.drop k := by
  unfold cutD
  rw [HT.sIx_none, HT.sIx_nat]
  by_cases h : k ≤ ds.length
  · rw [Nat.min_eq_left h, List.take_of_length_le (by rw [List.length_drop]; exact Nat.le_refl _)]
  · rw [Nat.min_eq_right (by omega), Nat.sub_self, List.take_zero, List.drop_of_length_le (by omega)]
theorem at_G {ds : List D} {i : Nat} (h : i < ds.length) : atI ds (i : Int) = some ds[i] := by
  unfold atI ixN
  simp [h]
section
variable {M : Md} {CT CS CB : Addr} {f : Addr} {fd : FuncData}
/-! _law_start_right -/
def nLStart : List Str := ["_law_draws", "_law_plan", "_law_way", "_law_table", "_law_start", "_law_texts", "_law_few", "_law_found", "_law_least_now", "_law_some", "_law_seams", "_law_at", "_law_spot", "_law_cases", "_law_standings_here", "_law_rows", "_law_one", "_law_other"]
def cLStart (CT : Addr) : Ct := fun ds R => ∃ (p : Plan) (j : Bool) (start : Nat), ds = [.dr, planD p, wayD j, tabD CT p, eN start, .lst ((p.texts 4).map eT)] ∧ p.Ok ∧ start < p.n ∧ R (.bl true)
def eC2 (c : List Stg × List Seam) : D := .tup [.lst (c.1.map eS), .lst (c.2.map eM)]
theorem ok_lstart (fx : Fx M CT CS CB) (Tt : M.Fn "_law_take" 1 2 cLTake) (Tf : M.Fn "_law_fewest" 8 4 cLFewest) (Tj : M.Fn "judge" 10 3 (cJudged CT CS CB)) (Tso : M.Fn "soonest" 11 3 (cSoon CT)) (Tis : M.Fn "is_safe" 11 3 (cIsSafe CT)) (TS : MkT M.P M.w M.K M.mg M.base "Safe" CS 1 2 iSafe) (Tss : MtT M.P M.w M.K M.mg M.base CS "shows" 9 4 (cShowsS CT CS)) (Tbs : MtT M.P M.w M.K M.mg M.base CB "shows" 10 4 (cShowsB CT CB)) (Tls : M.Fn "_law_shows" 7 5 cLShows) (Tb : M.Fn "_law_is_broken" 8 5 cLBroken) (Tp : M.Fn "_law_pieces_right" 11 6 (cLPieces CT CB)) (Fd : FunD M.K "_law_start_right" "_law_start_right" (defArgs (top 71)) (defBody (top 71)) (defScope (top 71)) [] [] f fd) : FnOk M.P M.w M.K M.mg M.base CX0 12 f fd ["_law_draws", "_law_plan", "_law_way", "_law_table", "_law_start", "_law_texts"] (spC M.P M.w M.K 6 (cLStart CT)) := by
  refine fn_ok (N := nLStart) nLStart nLStart ["_law_fewest", "judge", "soonest", "is_safe", "isinstance", "Safe", "_law_shows", "list", "_law_take", "len", "Broken", "_law_is_broken", "_law_pieces_right"] Fd (C8.fnScope_by (by decide +kernel)) rfl (by decide +kernel) (by decide +kernel) (by decide +kernel) fun q F0 H0 C ds R hl h => ?_
  obtain ⟨p, j, start, rfl, ok, hst, h⟩ := h
  have l6 : (defScope (top 71)).names.lookup ("_law_few" : Str) = some .local := by decide +kernel
  have l7 : (defScope (top 71)).names.lookup ("_law_found" : Str) = some .local := by decide +kernel
  have l9 : (defScope (top 71)).names.lookup ("_law_some" : Str) = some .local := by decide +kernel
  have l10 : (defScope (top 71)).names.lookup ("_law_seams" : Str) = some .local := by decide +kernel
  have l16 : (defScope (top 71)).names.lookup ("_law_one" : Str) = some .local := by decide +kernel
  have l17 : (defScope (top 71)).names.lookup ("_law_other" : Str) = some .local := by decide +kernel
  have htx : ∀ t ∈ p.texts 4, t.length ≤ 15000 ∧ ∀ x ∈ t, x < p.n := fun t ht => ⟨by have := (texts_mem ht).1; omega, wrongGo_lt (texts_mem ht).2⟩
  refine wb_cons (ws_par2 (hw := rfl) C lk6 lk7 (by decide) l6 l7 (wv_d (wd_fn Tf (by omega) C mm0 (wa_cons (wd_var C lk1 mm1 (wa_cons (wd_var C lk2 mm2 (wa_cons (wd_var C lk4 mm4 (wa_cons (wd_var C lk5 mm5 (wa_nil ⟨rfl, p, j, start, p.texts 4, rfl, ok, htx, wv_d (wd_fn Tj (by omega) C mm1 (wa_cons (wd_var C lk3 mm3 (wa_cons (wd_var C lk2 mm2 (wa_cons (wd_var C lk4 mm4 (wa_nil ⟨rfl, p, j, start, rfl, ok, hst, fun jr => ⟨_, _, pt6, pt7, ?_⟩⟩))))))))⟩))))))))))))
  refine wb_cons (ws_set C lk8 mm8 (wv_d (wd_fn Tso (by omega) C mm2 (wa_cons (wd_var C lk3 mm3 (wa_cons (wd_var C lk2 mm2 (wa_cons (wd_var C lk4 mm4 (wa_nil ⟨rfl, p, j, start, rfl, ok, hst, _, pt8, ?_⟩))))))))))
  cases hj : p.judged j start with
  | inr b =>
    obtain ⟨hb1, hb2, hb3, hb4⟩ := jr.br b hj
    obtain ⟨hf1, hf2⟩ := inr_fewest ok hst hj
    have hbad := ((judged_spec ok j hst).2 b hj).1
    have hisS : (p.judged j start).isLeft = false := by rw [hj]; rfl
    show WB _ _ _ [_, _, _, _, _, _, _, .d (brokenD CB b.1 b.2), .d (eO (some (b.1.length + b.2.length))), _, _, _, _, _, _, _, _, _] _ _ _
    have lo1 : [(("one" : Str), eT b.1), (("other" : Str), eT b.2)].lookup ("other" : Str) = some (eT b.2) := by rw [look_ne (by decide +kernel)]; rfl
    refine wb_cons (ws_if (wt_eq false ?_ (ite_f (wb_nil ?_))))
    · refine wt_w (ww_or (wt_cmp od_isnB (wd_meth Tbs (by omega) C (wd_var C lk7 mm7 ⟨_, rfl, rfl, wa_cons (wd_var C lk3 mm3 (wa_cons (wd_var C lk2 mm2 (wa_cons (wd_var C lk4 mm4 (wa_nil ⟨rfl, p, j, start, b.1, b.2, p.lawBroken j start b.1 b.2, rfl, ok, hst, by omega, by omega, br_shows ok j start b.1 b.2, wd_bl ⟨_, _, rfl, rfl, _, rfl, ?_⟩⟩))))))⟩))))
      rw [hbad.broken]
      refine ite_f ?_
      refine ww_or1 (wt_cmp od_neB (wd_fn Tis (by omega) C mm3 (wa_cons (wd_var C lk3 mm3 (wa_cons (wd_var C lk2 mm2 (wa_cons (wd_var C lk4 mm4 (wa_nil ⟨rfl, p, j, start, rfl, ok, hst, wd_isiO C mm4 fx.n_isinstance mm5 fx.gS (wd_var C lk7 mm7 ⟨_, _, _, rfl, fx.iB, fx.kBS, _, _, rfl, rfl, _, rfl, ?_⟩)⟩)))))))))
      rw [hisS]; rfl
    refine wb_cons (ws_if (wt_eq false ?_ (ite_f (wb_nil ?_))))
    · refine wt_w (ww_and (wt_cmp od_notN (wd_var C lk6 mm6 (wd_non ⟨rfl, _, rfl, ?_⟩))))
      rw [eO_isN]
      cases hk : p.fewest j start (p.texts 4) with
      | none => exact ite_f rfl
      | some k =>
        refine ite_t ?_
        exact ww_and1 (wt_cmp (od_ne C) (wd_var C lk8 mm8 (wd_var C lk6 mm6 ⟨_, _, isK_N _, isK_N k, _, rfl, by rw [dec_N, hf1 k hk, decide_eq_true rfl]; rfl⟩)))
    refine wb_cons (ws_if (wt_eq false ?_ (ite_f (wb_nil ?_))))
    · refine wt_w (ww_and (wt_cmp od_isN (wd_var C lk6 mm6 (wd_non ⟨rfl, _, rfl, ?_⟩))))
      rw [eO_isN]
      cases hk : p.fewest j start (p.texts 4) with
      | some k => exact ite_f rfl
      | none =>
        have := hf2 hk
        refine ite_t ?_
        exact ww_and (wt_cmp od_notN (wd_var C lk8 mm8 (wd_non ⟨rfl, _, rfl, ite_t (ww_and1 (wt_cmp od_lt (wd_var C lk8 mm8 (wd_int ⟨_, _, rfl, rfl, _, rfl, decide_eq_false (by omega)⟩))))⟩)))
    refine wb_cons (ws_if (wt_eq false ?_ (ite_f (wb_nil ?_))))
    · exact wt_val (wd_isiO C mm4 fx.n_isinstance mm5 fx.gS (wd_var C lk7 mm7 ⟨_, _, _, rfl, fx.iB, fx.kBS, _, rfl, rfl⟩))
    refine wb_cons (ws_if (wt_eq false ?_ (ite_f (wb_nil ?_))))
    · refine wt_w (ww_or (wt_not (wt_val (wd_isiO C mm4 fx.n_isinstance mm10 fx.gB (wd_var C lk7 mm7 ⟨_, _, _, rfl, fx.iB, fx.kBB, _, rfl, ite_f ?_⟩)))))
      exact ww_or1 (wt_cmp od_isN (wd_var C lk8 mm8 (wd_non ⟨rfl, _, rfl, rfl⟩)))
    refine wb_cons (ws_par2 (hw := rfl) C lk16 lk17 (by decide) l16 l17 (wv_d (wd_fld (wd_var C lk7 mm7 ⟨_, _, _, rfl, fx.cB, fx.aB _ mm0, rfl, wv_d (wd_fld (wd_var C lk7 mm7 ⟨_, _, _, rfl, fx.cB, fx.aB _ mm1, lo1, _, _, pt16, pt17, ?_⟩))⟩))))
    refine wb_cons (ws_if (wt_eq false ?_ (ite_f (wb_nil ?_))))
    · exact wt_not (wt_val (wd_fn Tb (by omega) C mm11 (wa_cons (wd_var C lk1 mm1 (wa_cons (wd_var C lk2 mm2 (wa_cons (wd_var C lk4 mm4 (wa_cons (wd_var C lk16 mm16 (wa_cons (wd_var C lk17 mm17 (wa_nil ⟨rfl, p, j, start, b.1, b.2, rfl, ok, by omega, by omega, _, rfl, by rw [hbad.broken]; rfl⟩)))))))))))))
    exact wb_one (ws_ret (wd_fn Tp (by omega) C mm12 (wa_cons (wd_var C lk0 mm0 (wa_cons (wd_var C lk1 mm1 (wa_cons (wd_var C lk2 mm2 (wa_cons (wd_var C lk3 mm3 (wa_cons (wd_var C lk4 mm4 (wa_cons (wd_var C lk7 mm7 (wa_nil ⟨rfl, p, j, start, b.1, b.2, rfl, ok, hst, hb2, hb4, h⟩)))))))))))))))
  | inl fo =>
    have hJI := jr.ok fo hj
    have hsh := inl_shows ok hst hj
    have hfw := inl_fewest ok hst hj
    have hnb := fun {sts sms} => inl_nobreak (sts := sts) (sms := sms) ok hst hj
    have hisS : (p.judged j start).isLeft = true := by rw [hj]; rfl
    have hS := standings_spec ok j
    have hKl : ((p.standings j).map (·.1)).length ≤ 105 := by rw [List.length_map]; exact hS.si.few ok
    have hKo : ∀ s ∈ (p.standings j).map (·.1), SOk p s := fun s hs => by
      obtain ⟨e, he, rfl⟩ := List.mem_map.mp hs
      exact hS.si.ok e he
    have hK0 : 0 < ((p.standings j).map (·.1)).length := List.length_pos_of_mem (List.mem_map.mpr ⟨_, hS.z, rfl⟩)
    have hFl : fo.length ≤ 11025 := hJI.few ok
    have hFo : ∀ m ∈ fo, MOk p m := fun m hm => ⟨(hJI.ok m hm).a, (hJI.ok m hm).b, by have := (hJI.ok m hm).len ok; omega⟩
    show WB _ _ _ [_, _, _, _, _, _, .d (eO (p.fewest j start (p.texts 4))), .d (safeD CS ((p.standings j).map fun e => eS e.1) (fo.map eM)), .d (eO none), _, _, _, _, _, _, _, _, _] _ _ _
    have est : (p.standings j).map (fun e => eS e.1) = ((p.standings j).map (·.1)).map eS := by rw [List.map_map]; rfl
    rw [hfw, est]
    generalize (p.standings j).map (·.1) = K at hsh hnb hKl hKo hK0
    have lo1 : [(("standings" : Str), D.lst (K.map eS)), (("seams" : Str), D.lst (fo.map eM))].lookup ("seams" : Str) = some (.lst (fo.map eM)) := by rw [look_ne (by decide +kernel)]; rfl
    refine wb_cons (ws_if (wt_eq false ?_ (ite_f (wb_nil ?_))))
    · refine wt_w (ww_or (wt_cmp od_isnB (wd_meth Tss (by omega) C (wd_var C lk7 mm7 ⟨_, rfl, rfl, wa_cons (wd_var C lk3 mm3 (wa_cons (wd_var C lk2 mm2 (wa_cons (wd_var C lk4 mm4 (wa_nil ⟨rfl, p, j, start, K, fo, rfl, ok, hst, hKo, hFo, by omega, by omega, hnb (fun s hs => hs) (fun m hm => .inl hm), wd_bl ⟨_, _, rfl, rfl, _, rfl, ?_⟩⟩))))))⟩))))
      rw [hsh]
      refine ite_f ?_
      refine ww_or1 (wt_cmp od_neB (wd_fn Tis (by omega) C mm3 (wa_cons (wd_var C lk3 mm3 (wa_cons (wd_var C lk2 mm2 (wa_cons (wd_var C lk4 mm4 (wa_nil ⟨rfl, p, j, start, rfl, ok, hst, wd_isiO C mm4 fx.n_isinstance mm5 fx.gS (wd_var C lk7 mm7 ⟨_, _, _, rfl, fx.iS, fx.kSS, _, _, rfl, rfl, _, rfl, ?_⟩)⟩)))))))))
      rw [hisS]; rfl
    refine wb_cons (ws_if (wt_eq false ?_ (ite_f (wb_nil ?_))))
    · exact wt_w (ww_and (wt_cmp od_notN (wd_var C lk6 mm6 (wd_non ⟨rfl, _, rfl, ite_f rfl⟩))))
    refine wb_cons (ws_if (wt_eq false ?_ (ite_f (wb_nil ?_))))
    · refine wt_w (ww_and (wt_cmp od_isN (wd_var C lk6 mm6 (wd_non ⟨rfl, _, rfl, ite_t ?_⟩))))
      exact ww_and (wt_cmp od_notN (wd_var C lk8 mm8 (wd_non ⟨rfl, _, rfl, ite_f rfl⟩)))
    refine wb_cons (ws_if (wt_eq true ?_ (ite_t ?_)))
    · exact wt_val (wd_isiO C mm4 fx.n_isinstance mm5 fx.gS (wd_var C lk7 mm7 ⟨_, _, _, rfl, fx.iS, fx.kSS, _, rfl, rfl⟩))
    refine wb_cons (ws_if (wt_eq false ?_ (ite_f (wb_nil ?_))))
    · refine wt_w (ww_or (wt_cmp od_notN (wd_var C lk8 mm8 (wd_non ⟨rfl, _, rfl, ite_f ?_⟩))))
      exact ww_or1 (wt_not (wt_val (wd_fn Tls (by omega) C mm6 (wa_cons (wd_var C lk1 mm1 (wa_cons (wd_var C lk2 mm2 (wa_cons (wd_var C lk4 mm4 (wa_cons (wd_fld (wd_var C lk7 mm7 ⟨_, _, _, rfl, fx.cS, fx.aS _ mm0, rfl, wa_cons (wd_fld (wd_var C lk7 mm7 ⟨_, _, _, rfl, fx.cS, fx.aS _ mm1, lo1, wa_nil ⟨rfl, p, j, start, K, fo, rfl, ok, hst, hKo, hFo, by omega, by omega, _, rfl, by rw [hsh]; rfl⟩⟩))⟩))))))))))))
    refine wb_cons (ws_par2 (hw := rfl) C lk9 lk10 (by decide) l9 l10 (wv_d (wd_callTy cd_listL C mm7 fx.n_list b_list (wa_cons (wd_fld (wd_var C lk7 mm7 ⟨_, _, _, rfl, fx.cS, fx.aS _ mm0, rfl, wa_nil ⟨_, .inl rfl, wv_d (wd_callTy cd_listL C mm7 fx.n_list b_list (wa_cons (wd_fld (wd_var C lk7 mm7 ⟨_, _, _, rfl, fx.cS, fx.aS _ mm1, lo1, wa_nil ⟨_, .inl rfl, _, _, pt9, pt10, ?_⟩⟩))))⟩⟩))))))
    refine wb_cons (ws_set C lk11 mm11 (wv_d (wd_fn Tt (by omega) C mm8 (wa_cons (wd_var C lk0 mm0 (wa_cons (wd_callB cd_lenL C mm9 fx.n_len b_len (wa_cons (wd_var C lk9 mm9 (wa_nil ⟨_, rfl, wa_nil ⟨rfl, K.length, by rw [List.length_map], hK0, fun k hk => ⟨_, pt11, ?_⟩⟩⟩))))))))))
    refine wb_cons (ws_set C lk12 mm12 (wv_d (wd_fn Tt (by omega) C mm8 (wa_cons (wd_var C lk0 mm0 (wa_cons (wd_op od_add (wd_callB cd_lenL C mm9 fx.n_len b_len (wa_cons (wd_var C lk10 mm10 (wa_nil ⟨_, rfl, wd_int ⟨_, _, rfl, rfl, wa_nil ⟨rfl, fo.length + 1, by rw [List.length_map]; rfl, by omega, fun o ho => ⟨_, pt12, ?_⟩⟩⟩⟩)))))))))))
    have hlS : ∀ xs : List Stg, xs.length ≤ 105 → ∀ ys : List Stg, ys.length ≤ 105 → (xs.map eS).length + (ys.map eS).length ≤ sizeLine := fun xs hx ys hy => len_big (by rw [List.length_map, List.length_map]; omega)
    have hlM : ∀ xs : List Seam, xs.length ≤ 11025 → ∀ ys : List Seam, ys.length ≤ 11025 → (xs.map eM).length + (ys.map eM).length ≤ sizeLine := fun xs hx ys hy => len_big (by rw [List.length_map, List.length_map]; omega)
    refine wb_via [.d .dr, .d (planD p), .d (wayD j), .d (tabD CT p), .d (eN start), .d (.lst ((p.texts 4).map eT)), .d (eO none), .d (safeD CS (K.map eS) (fo.map eM)), .d (eO none), .d (.lst (K.map eS)), .d (.lst (fo.map eM)), .d (eN k), .d (eN o), .own ([(K.reverse ++ K.reverse, fo.reverse), (K.take k ++ K.drop (k + 1), fo), (K, fo.take o ++ fo.drop (o + 1)), ([], fo)].map eC2), .no, .no, .no, .no] ?_ ?_
    · refine ws_set C lk13 mm13 (wv_f (wf_lst (wa_cons (wd_tup (wa_cons (wd_op od_rep2 (wd_revL (wd_var C lk9 mm9 ⟨_, rfl, wd_int ⟨_, rfl, rfl, len_big (by rw [List.length_reverse, List.length_map]; omega), wa_cons (wd_revL (wd_var C lk10 mm10 ⟨_, rfl, wa_nil ⟨ln2, ?_⟩⟩))⟩⟩))))))))
      refine wa_cons (wd_tup (wa_cons (wd_op od_catL (wd_sliceL (POl := (· = none)) (POh := (· = some (k : Int))) (wd_var C lk9 mm9 ⟨_, rfl, ?_⟩) (wo_none rfl) (wo_some (wd_var C lk11 mm11 ⟨_, rfl, rfl⟩))))))
      rintro _ _ rfl rfl
      rw [cutD_takeG (by rw [List.length_map]; omega)]
      refine wd_sliceL (POl := (· = some ((k + 1 : Nat) : Int))) (POh := (· = none)) (wd_var C lk9 mm9 ⟨_, rfl, ?_⟩) (wo_some (wd_op od_add (wd_var C lk11 mm11 (wd_int ⟨_, _, rfl, rfl, _, rfl, rfl⟩)))) (wo_none rfl)
      rintro _ _ rfl rfl
      rw [cutD_dropG, ← List.map_take, ← List.map_drop]
      refine ⟨_, _, rfl, rfl, hlS _ (by rw [List.length_take]; omega) _ (by rw [List.length_drop]; omega), wa_cons (wd_var C lk10 mm10 (wa_nil ⟨ln2, ?_⟩))⟩
      refine wa_cons (wd_tup (wa_cons (wd_var C lk9 mm9 (wa_cons (wd_op od_catL (wd_sliceL (POl := (· = none)) (POh := (· = some (o : Int))) (wd_var C lk10 mm10 ⟨_, rfl, ?_⟩) (wo_none rfl) (wo_some (wd_var C lk12 mm12 ⟨_, rfl, rfl⟩))))))))
      rintro _ _ rfl rfl
      rw [cutD_takeG (by rw [List.length_map]; omega)]
      refine wd_sliceL (POl := (· = some ((o + 1 : Nat) : Int))) (POh := (· = none)) (wd_var C lk10 mm10 ⟨_, rfl, ?_⟩) (wo_some (wd_op od_add (wd_var C lk12 mm12 (wd_int ⟨_, _, rfl, rfl, _, rfl, rfl⟩)))) (wo_none rfl)
      rintro _ _ rfl rfl
      rw [cutD_dropG, ← List.map_take, ← List.map_drop]
      refine ⟨_, _, rfl, rfl, hlM _ (by rw [List.length_take]; omega) _ (by rw [List.length_drop]; omega), wa_nil ⟨ln2, ?_⟩⟩
      refine wa_cons (wd_tup (wa_cons (wd_fresh (wf_lst (wa_nil ⟨Nat.zero_le _, wa_cons (wd_var C lk10 mm10 (wa_nil ⟨ln2, wa_nil ⟨le_line (by simp), _, pt13, ?_⟩⟩))⟩)))))
      simp [eC2, List.map_reverse]
    have hk' : k < (K.map eS).length := by rw [List.length_map]; exact hk
    refine wb_via [.d .dr, .d (planD p), .d (wayD j), .d (tabD CT p), .d (eN start), .d (.lst ((p.texts 4).map eT)), .d (eO none), .d (safeD CS (K.map eS) (fo.map eM)), .d (eO none), .d (.lst (K.map eS)), .d (.lst (fo.map eM)), .d (eN k), .d (eN o), .own ([(K.reverse ++ K.reverse, fo.reverse), (K.take k ++ K.drop (k + 1), fo), (K, fo.take o ++ fo.drop (o + 1)), ([], fo), (K, fo ++ [(K[k], Plan.first, [])])].map eC2), .no, .no, .no, .no] ?_ (wb_frzL pt13 pt13 ?_)
    · refine ws_append C lk13 mm13 (wd_tup (wa_cons (wd_var C lk9 mm9 (wa_cons (wd_op od_catL (wd_var C lk10 mm10 (wd_fresh (wf_lst (wa_cons (wd_tup (wa_cons (wd_ix xd_lst (wd_var C lk9 mm9 (wd_var C lk11 mm11 ⟨_, _, _, rfl, rfl, at_G hk', ?_⟩))))))))))))))
      refine wa_cons (wd_tup (wa_cons (wd_non (wa_cons (wd_tup (wa_nil ⟨Nat.zero_le _, wa_nil ⟨ln2, wa_cons (wd_tup (wa_nil ⟨Nat.zero_le _, wa_nil ⟨le_line (by simp), wa_nil ⟨ln1, _, _, rfl, rfl, len_big (by simp; omega), wa_nil ⟨ln2, ?_, _, pt13, ?_⟩⟩⟩⟩))⟩⟩))))))
      · have := line_big; simp; omega
      · simp [eC2, eM, eS, eO, Plan.first]
    have hcs : ∀ c ∈ [(K.reverse ++ K.reverse, fo.reverse), (K.take k ++ K.drop (k + 1), fo), (K, fo.take o ++ fo.drop (o + 1)), ([], fo), (K, fo ++ [(K[k], Plan.first, [])])], (∀ s ∈ c.1, s ∈ K) ∧ (∀ m ∈ c.2, m ∈ fo ∨ ∃ s ∈ K, m = (s, Plan.first, [])) ∧ c.1.length ≤ 100000 ∧ c.2.length ≤ 100000 := by
      intro c hc
      simp only [List.mem_cons, List.not_mem_nil, or_false] at hc
      rcases hc with rfl | rfl | rfl | rfl | rfl
      · refine ⟨fun s hs => ?_, fun m hm => .inl (List.mem_reverse.mp hm), by simp; omega, by simp; omega⟩
        rcases List.mem_append.mp hs with hs | hs <;> exact List.mem_reverse.mp hs
      · refine ⟨fun s hs => ?_, fun m hm => .inl hm, by simp; omega, by simp; omega⟩
        rcases List.mem_append.mp hs with hs | hs
        · exact List.mem_of_mem_take hs
        · exact List.mem_of_mem_drop hs
      · refine ⟨fun s hs => hs, fun m hm => .inl ?_, by simp; omega, by simp; omega⟩
        rcases List.mem_append.mp hm with hm | hm
        · exact List.mem_of_mem_take hm
        · exact List.mem_of_mem_drop hm
      · exact ⟨(fun _ z => nomatch z), fun m hm => .inl hm, by simp, by simp; omega⟩
      · refine ⟨fun s hs => hs, fun m hm => ?_, by simp; omega, by simp; omega⟩
        rcases List.mem_append.mp hm with hm | hm
        · exact .inl hm
        · exact .inr ⟨K[k], List.getElem_mem hk, List.mem_singleton.mp hm⟩
    generalize [(K.reverse ++ K.reverse, fo.reverse), (K.take k ++ K.drop (k + 1), fo), (K, fo.take o ++ fo.drop (o + 1)), ([], fo), (K, fo ++ [(K[k], Plan.first, [])])] = cs at hcs ⊢
    refine wb_cons (ws_for (ns := [14, 15]) C (wi_lst (wd_var C lk13 mm13 ⟨_, rfl, fun i ρ' => ∃ s14 s15 : Sl, ρ' = [.d .dr, .d (planD p), .d (wayD j), .d (tabD CT p), .d (eN start), .d (.lst ((p.texts 4).map eT)), .d (eO none), .d (safeD CS (K.map eS) (fo.map eM)), .d (eO none), .d (.lst (K.map eS)), .d (.lst (fo.map eM)), .d (eN k), .d (eN o), .d (.lst (cs.map eC2)), s14, s15, .no, .no], ⟨_, _, rfl⟩, ?_, ?_⟩)))
    · rintro ρ' ⟨s14, s15, rfl⟩
      exact wb_one (ws_ret (wd_bl h))
    · rintro i d ρ1 ed ⟨s14, s15, rfl⟩
      have hi : i < cs.length := by have := (List.getElem?_eq_some_iff.mp ed).1; rwa [List.length_map] at this
      rw [List.getElem?_map, List.getElem?_eq_getElem hi] at ed
      cases ed
      have hc := hcs _ (List.getElem_mem hi)
      generalize cs[i] = c at hc ⊢
      obtain ⟨x, y⟩ := c
      obtain ⟨hx, hy, hxl, hyl⟩ := hc
      have hx : ∀ s ∈ x, s ∈ K := hx
      have hy : ∀ m ∈ y, m ∈ fo ∨ ∃ s ∈ K, m = (s, Plan.first, []) := hy
      have hxo : ∀ s ∈ x, SOk p s := fun s hs => hKo s (hx s hs)
      have hyo : ∀ m ∈ y, MOk p m := fun m hm => by
        rcases hy m hm with hm | ⟨s, hs, rfl⟩
        · exact hFo m hm
        · exact ⟨hKo s hs, first_ok p, Nat.zero_le _⟩
      have hn : NoBreak p j start x y := hnb hx fun m hm => by
        rcases hy m hm with hm | ⟨s, _, hm⟩
        · exact .inl hm
        · exact .inr ⟨s, hm⟩
      refine wg_tup C rfl (wgs_cons rfl (wg_name C lk14 mm14 pt14 rfl) (wgs_cons rfl (wg_name C lk15 mm15 pt15 rfl) (wgs_nil ?_))) rfl
      refine wb_one (ws_if (wt_cmp od_neB (wd_meth Tss (by omega) C (wd_make TS (by omega) C mm5 (wa_cons (wd_var C lk14 mm14 (wa_cons (wd_var C lk15 mm15 (wa_nil ⟨rfl, _, _, _, _, rfl, .inl rfl, .inl rfl, ?_⟩)))))))))
      refine ⟨_, rfl, rfl, wa_cons (wd_var C lk3 mm3 (wa_cons (wd_var C lk2 mm2 (wa_cons (wd_var C lk4 mm4 (wa_nil ⟨rfl, p, j, start, x, y, rfl, ok, hst, hxo, hyo, hxl, hyl, hn, ?_⟩))))))⟩
      refine wd_fn Tls (by omega) C mm6 (wa_cons (wd_var C lk1 mm1 (wa_cons (wd_var C lk2 mm2 (wa_cons (wd_var C lk4 mm4 (wa_cons (wd_var C lk14 mm14 (wa_cons (wd_var C lk15 mm15 (wa_nil ⟨rfl, p, j, start, x, y, rfl, ok, hst, hxo, hyo, hxl, hyl, _, _, rfl, rfl, _, rfl, ?_⟩)))))))))))
      rw [decide_eq_true rfl]
      exact ite_f (wb_nil ⟨_, _, rfl⟩)
end
end W3
end
section
set_option Elab.async false
set_option linter.all false
set_option maxRecDepth 100000
set_option maxHeartbeats 2000000
/-! XM: the law. -/
namespace W3
open PySem PySem.Spec PyProof.Rows L2 Pl
theorem cutD_takeA {ds : List D} {k : Nat} : cutD ds none (some (k : Int)) = ds.take k := by
  unfold cutD
  rw [HT.sIx_none, HT.sIx_nat, List.drop_zero, Nat.sub_zero]
  by_cases h : k ≤ ds.length
  · rw [Nat.min_eq_left h]
  · rw [Nat.min_eq_right (by omega), List.take_length, List.take_of_length_le (by omega)]
section
variable {M : Md} {CT CS CB : Addr} {f : Addr} {fd : FuncData}
def nLaw : List Str := ["_law_script", "_law_draws", "_law_plan", "_law_way", "_law_table", "_law_texts", "_law_turn", "_law_text_here", "_law_at", "_law_starts", "_law_start"]
def lLaw : List Str := ["_law_script", "_law_draws", "_law_plan", "_law_way", "_law_table", "_law_texts", "_law_turn", "_law_text_here", "_law_at", "_law_starts"]
def cLaw : Ct := fun ds R => ∃ ns : List Int, ds = [.scr ns] ∧ (∀ x ∈ ns, x.natAbs < 2 ^ 2000000) ∧ R (.bl true)
theorem ok_law (fx : Fx M CT CS CB) (Tpo : M.Fn "_law_pool" 4 2 cLPool) (Tpa : M.Fn "_law_parts" 3 2 cLParts) (Tt : M.Fn "_law_take" 1 2 cLTake) (Tm : M.Fn "_law_made" 6 1 (cMade CT)) (Ta : M.Fn "_law_all_texts" 6 2 cLTexts) (Tx : M.Fn "_law_text" 6 3 cLText) (Th : M.Fn "is_harmless" 10 4 (cIsHarm CT)) (Tf : M.Fn "_law_is_fine" 7 4 cLFine) (Tss : M.Fn "safe_starts" 10 2 (cSafeStarts CT)) (Tis : M.Fn "is_safe" 11 3 (cIsSafe CT)) (Tsr : M.Fn "_law_start_right" 12 6 (cLStart CT)) (Fd : FunD M.K "law" "law" (defArgs (top 72)) (defBody (top 72)) (defScope (top 72)) [] [] f fd) : FnOk M.P M.w M.K M.mg M.base CX0 13 f fd ["_law_script"] (spC M.P M.w M.K 1 cLaw) := by
  refine fn_ok (N := nLaw) lLaw lLaw ["_law_pool", "_law_parts", "_law_take", "_law_made", "_law_all_texts", "range", "_law_text", "len", "is_harmless", "_law_is_fine", "list", "safe_starts", "all"] Fd (C8.fnScope_by (by decide +kernel)) rfl (by decide +kernel) (by decide +kernel) (by decide +kernel) fun q F0 H0 C ds R hl h => ?_
  obtain ⟨ns, rfl, hns, h⟩ := h
  refine wb_cons (ws_set C lk1 mm1 (wv_d (wd_fn Tpo (by omega) C mm0 (wa_cons (wd_sliceS (POl := (· = none)) (POh := (· = some ((63 : Nat) : Int))) (wd_var C lk0 mm0 ⟨_, rfl, ?_⟩) (wo_none rfl) (wo_some (wd_int ⟨_, rfl, rfl⟩)))))))
  rintro _ _ rfl rfl
  rw [cutD_takeA, ← List.map_take]
  refine wa_cons (wd_tup (wa_cons (wd_int (wa_cons (wd_int (wa_cons (wd_int (wa_cons (wd_int (wa_nil ⟨le_line (by simp), wa_nil ⟨rfl, ns.take 63, [1009, 1013, 1000033, 1000037], 2000000, rfl, fun x hx => hns x (List.mem_of_mem_take hx), by omega, by omega, by decide, by decide, _, pt1, ?_⟩⟩))))))))))
  refine wb_cons (ws_asg (ns := [2, 3]) (wd_tup (wa_cons (wd_fn Tpa (by omega) C mm1 (wa_cons (wd_var C lk1 mm1 (wa_cons (wd_int (wa_nil ⟨rfl, 4, rfl, by omega, by omega, fun p ok => ?_⟩)))))))))
  refine wa_cons (wd_ix xd_tup (wd_tup (wa_cons (wd_str (wa_cons (wd_str (wa_cons (wd_str (wa_nil ⟨ln3, wd_fn Tt (by omega) C mm2 (wa_cons (wd_var C lk1 mm1 (wa_cons (wd_int (wa_nil ⟨rfl, 3, rfl, by omega, fun r hr => ?_⟩)))))⟩)))))))))
  have hw : atI [D.str "apart", .str "joined", .str "joined"] (r : Int) = some (wayD (decide (r ≠ 0))) := by
    match r, hr with
    | 0, _ => exact at_0
    | 1, _ => exact at_1
    | 2, _ => exact at_2
  refine ⟨_, _, _, rfl, rfl, hw, wa_nil ⟨ln2, ?_⟩⟩
  clear hw
  generalize decide (r ≠ 0) = j
  refine wg_tup C rfl (wgs_cons rfl (wg_name C lk2 mm2 pt2 rfl) (wgs_cons rfl (wg_name C lk3 mm3 pt3 rfl) (wgs_nil ?_))) rfl
  have hn4 : p.n ≤ 4 := ok.few
  refine wb_cons (ws_asg (ns := [4, 5]) (wd_tup (wa_cons (wd_fn Tm (by omega) C mm3 (wa_cons (wd_var C lk2 mm2 (wa_nil ⟨rfl, p, rfl, ok, wa_cons (wd_fn Ta (by omega) C mm4 (wa_cons (wd_var C lk2 mm2 (wa_cons (wd_int (wa_nil ⟨rfl, p, 4, rfl, ok, by omega, wa_nil ⟨ln2, ?_⟩⟩))))))⟩)))))))
  refine wg_tup C rfl (wgs_cons rfl (wg_name C lk4 mm4 pt4 rfl) (wgs_cons rfl (wg_name C lk5 mm5 pt5 rfl) (wgs_nil ?_))) rfl
  refine wb_cons (ws_for (ns := [6]) C (wi_range C mm5 fx.n_range (wd_int ⟨8, rfl, by omega, fun i ρ' => ∃ s6 s7 s8 : Sl, ρ' = [.d (.scr ns), .d .dr, .d (planD p), .d (wayD j), .d (tabD CT p), .d (.lst ((p.texts 4).map eT)), s6, s7, s8, .no, .no], ⟨_, _, _, rfl⟩, ?_, ?_⟩)))
  · rintro ρ' ⟨s6, s7, s8, rfl⟩
    refine wb_cons (ws_set C lk9 mm9 (wv_d (wd_listRg (x := "") (y := "") C mm10 fx.n_list mm5 fx.n_range (wd_callB cd_lenT C mm7 fx.n_len b_len (wa_cons (wd_ix xd_tup (wd_var C lk2 mm2 (wd_int ⟨_, _, _, rfl, rfl, at_0, wa_nil ⟨_, rfl, p.n, by rw [List.length_map]; rfl, by omega, _, pt9, ?_⟩⟩))))))))
    refine wb_cons (ws_if (wt_eq false ?_ (ite_f (wb_nil ?_))))
    · refine wt_cmp (od_neL C) (wd_fn Tss (by omega) C mm11 (wa_cons (wd_var C lk4 mm4 (wa_cons (wd_var C lk3 mm3 (wa_nil ⟨rfl, p, j, rfl, ok, ?_⟩))))))
      refine wd_fresh (wf_c (own := [("_law_start", 10)]) (ns := [10]) C (blkOk_by (show blkC nLaw (defScope (top 72)) _ _ = true by decide +kernel)) (by decide) (wi_lst (wd_var C lk9 mm9 ⟨_, rfl, ?_⟩)))
      refine lc_filt (List.range p.n) eN (fun s => (p.judged j s).isLeft) eN (le_line (by rw [List.length_range]; omega)) ⟨_, _, isL_T _, isL_T _, _, rfl, by rw [decide_eq_true rfl]; rfl⟩ fun x hx q => ?_
      refine wg_in C ["_law_start", "_law_table", "_law_way"] ["_law_start"] ["is_safe"] rfl rfl rfl fun C' => wg_name C' lk10 mm0 pt10 ?_
      intro q
      refine wt_in C ["_law_start", "_law_table", "_law_way"] ["_law_start"] ["is_safe"] rfl rfl rfl fun C' => ?_
      refine wt_val (wd_fn Tis (by omega) C' mm0 (wa_cons (wd_var C' lk4 mm1 (wa_cons (wd_var C' lk3 mm2 (wa_cons (wd_var C' lk10 mm0 (wa_nil ⟨rfl, p, j, x, rfl, ok, List.mem_range.mp hx, _, rfl, ?_⟩))))))))
      exact ⟨rfl, fun _ q => wd_in C ["_law_start", "_law_table", "_law_way"] ["_law_start"] ["is_safe"] rfl rfl rfl fun C' => wd_var C' lk10 mm0 rfl⟩
    refine wb_one (ws_ret (wd_callB (cd_all C) C mm12 fx.n_all b_all (wa_cons (wd_fresh (wf_eq ((List.range p.n).map fun _ => .bl true) ?_ (wa_nil ⟨(List.range p.n).map fun _ => true, by rw [List.map_map]; rfl, ?_⟩))))))
    rotate_left
    · have e : ((List.range p.n).map fun _ => true).all id = true := by rw [List.all_map, List.all_eq_true]; intro x _; rfl
      rw [e]; exact h
    refine wf_c (own := [("_law_start", 10)]) (ns := [10]) C (blkOk_by (show blkC nLaw (defScope (top 72)) _ _ = true by decide +kernel)) (by decide) (wi_lst (wd_var C lk9 mm9 ⟨_, rfl, ?_⟩))
    refine lc_map (List.range p.n) eN (fun _ => .bl true) (le_line (by rw [List.length_range]; omega)) rfl fun x hx q => ?_
    refine wg_in C ["_law_start", "_law_draws", "_law_plan", "_law_way", "_law_table", "_law_texts"] ["_law_start"] ["_law_start_right"] rfl rfl rfl fun C' => wg_name C' lk10 mm0 pt10 ?_
    intro q
    refine wd_in C ["_law_start", "_law_draws", "_law_plan", "_law_way", "_law_table", "_law_texts"] ["_law_start"] ["_law_start_right"] rfl rfl rfl fun C' => ?_
    exact wd_fn Tsr (by omega) C' mm0 (wa_cons (wd_var C' lk1 mm1 (wa_cons (wd_var C' lk2 mm2 (wa_cons (wd_var C' lk3 mm3 (wa_cons (wd_var C' lk4 mm4 (wa_cons (wd_var C' lk10 mm0 (wa_cons (wd_var C' lk5 mm5 (wa_nil ⟨rfl, p, j, x, rfl, ok, List.mem_range.mp hx, rfl⟩)))))))))))))
  · rintro i d ρ1 ed ⟨s6, s7, s8, rfl⟩
    refine wg_name C lk6 mm6 pt6 ?_
    refine wb_cons (ws_set C lk7 mm7 (wv_d (wd_fn Tx (by omega) C mm6 (wa_cons (wd_var C lk1 mm1 (wa_cons (wd_var C lk2 mm2 (wa_cons (wd_int (wa_nil ⟨rfl, p, 8, rfl, ok, by omega, fun xs hxl hxt => ⟨_, pt7, ?_⟩⟩))))))))))
    refine wb_cons (ws_set C lk8 mm8 (wv_d (wd_fn Tt (by omega) C mm2 (wa_cons (wd_var C lk1 mm1 (wa_cons (wd_op od_add (wd_callB cd_lenT C mm7 fx.n_len b_len (wa_cons (wd_var C lk7 mm7 (wa_nil ⟨_, rfl, wd_int ⟨_, _, rfl, rfl, wa_nil ⟨rfl, xs.length + 1, by rw [List.length_map]; rfl, by omega, fun a ha => ⟨_, pt8, ?_⟩⟩⟩⟩)))))))))))
    have hx := wrongGo_lt hxt
    have ht : p.wrongAt (xs.take a ++ xs.drop a) = none := by rw [List.take_append_drop]; exact hxt
    have h1 : (xs.take a).length ≤ 15000 := by rw [List.length_take]; omega
    have h2 : (xs.drop a).length ≤ 15000 := by rw [List.length_drop]; omega
    refine wb_one (ws_if (wt_cmp od_neB (wd_fn Th (by omega) C mm8 (wa_cons (wd_var C lk4 mm4 (wa_cons (wd_var C lk3 mm3 (wa_cons (wd_sliceT (POl := (· = none)) (POh := (· = some (a : Int))) (wd_var C lk7 mm7 ⟨_, rfl, ?_⟩) (wo_none rfl) (wo_some (wd_var C lk8 mm8 ⟨_, rfl, rfl⟩)))))))))))
    rintro _ _ rfl rfl
    rw [cutD_take]
    refine wa_cons (wd_sliceT (POl := (· = some (a : Int))) (POh := (· = none)) (wd_var C lk7 mm7 ⟨_, rfl, ?_⟩) (wo_some (wd_var C lk8 mm8 ⟨_, rfl, rfl⟩)) (wo_none rfl))
    rintro _ _ rfl rfl
    rw [cutD_drop]
    refine wa_nil ⟨rfl, p, j, xs.take a, xs.drop a, p.lawFine j (xs.take a) (xs.drop a), rfl, ok, wrongGo_lt ht, h1, h2, tame_left ht, ht, harm_fine ok j ht, ?_⟩
    refine wd_fn Tf (by omega) C mm9 (wa_cons (wd_var C lk2 mm2 (wa_cons (wd_var C lk3 mm3 (wa_cons (wd_sliceT (POl := (· = none)) (POh := (· = some (a : Int))) (wd_var C lk7 mm7 ⟨_, rfl, ?_⟩) (wo_none rfl) (wo_some (wd_var C lk8 mm8 ⟨_, rfl, rfl⟩))))))))
    rintro _ _ rfl rfl
    rw [cutD_take]
    refine wa_cons (wd_sliceT (POl := (· = some (a : Int))) (POh := (· = none)) (wd_var C lk7 mm7 ⟨_, rfl, ?_⟩) (wo_some (wd_var C lk8 mm8 ⟨_, rfl, rfl⟩)) (wo_none rfl))
    rintro _ _ rfl rfl
    rw [cutD_drop]
    refine wa_nil ⟨rfl, p, j, xs.take a, xs.drop a, rfl, ok, fun x hx' => hx x (List.mem_of_mem_take hx'), fun x hx' => hx x (List.mem_of_mem_drop hx'), h1, h2, _, _, rfl, rfl, _, rfl, ?_⟩
    rw [decide_eq_true rfl]
    exact ite_f (wb_nil ⟨_, _, _, rfl⟩)
end
end W3
end
section
set_option Elab.async false
set_option linter.all false
set_option maxRecDepth 100000
set_option maxHeartbeats 4000000
/-! YA: what the head tells; all defs; the law's promise. Printed by asm.py. -/
namespace W3
open PySem PySem.Spec PyProof.Rows L2 Pl Hd
theorem tup0_ok {K : PySem.W.Frag} {a : Addr} (h : tup0 K a = true) (H : Hp) : SqT K H a [] := by
  unfold tup0 at h
  cases q : K.lookup a with
  | none => rw [q] at h; cases h
  | some o =>
    obtain ⟨oc, od, dt, osl⟩ := o
    rw [q] at h
    cases oc with
    | type c =>
      cases dt with
      | seq its n =>
        obtain ⟨h1, h2⟩ := He.ba (show (decide (c = "tuple") && decide (its.toList = [])) = true from h)
        have h2 := of_decide_eq_true h2
        refine .inr ⟨_, its, n, q, congrArg Value.type (of_decide_eq_true h1), rfl, ?_, ?_⟩
        · have : its.size = 0 := by rw [← Array.length_toList, h2]; rfl
          omega
        · rw [h2]; exact .nil
      | _ => cases h
    | _ => cases dt <;> cases h
theorem isi_ok {K : PySem.W.Frag} {x : Str} (c : Cls K (He.ga K x)) (h : isiB K x = true) : IsiC K (He.ga K x) := by
  obtain ⟨h1, h⟩ := He.ba h
  obtain ⟨h2, h⟩ := He.ba h
  obtain ⟨h3, h4⟩ := He.ba h
  exact ⟨c, He.eqO_ok h1, He.eqO_ok h2, of_decide_eq_true h3, of_decide_eq_true h4⟩
theorem kit_self (K : PySem.W.Frag) (a : Addr) : PySem.W.kitOne K (.ref a) (.ref a) = some true := by
  unfold PySem.W.kitOne
  rw [if_pos (beq_self_eq_true _)]
theorem gc_int {P : Program} {w : World} {K : PySem.W.Frag} {mg : Str → Option Value} {x : Str} {i : Int} (h : ∃ t, mg x = some (.int i t)) : GCon P w K mg x (.int i) := by
  obtain ⟨t, h⟩ := h
  exact ⟨_, .int i, h, He.relB_ok (by simp [He.relB]), fun F => .int i⟩
theorem gc_ways {P : Program} {w : World} {K : PySem.W.Frag} {mg : Str → Option Value} (h : mg "WAYS" = some (.ref (He.ga K "WAYS"))) (e : He.tupB K "WAYS" [.str "apart", .str "joined"] = true) : GCon P w K mg "WAYS" (.tup [.str "apart", .str "joined"]) :=
  ⟨_, .ref _, h, He.relB_ok (by simp [He.relB]), fun F => .tup (He.tupB_ok e F) (.cons (.str _) (.cons (.str _) .nil))⟩
theorem gc_first {P : Program} {w : World} {K : PySem.W.Frag} {mg : Str → Option Value} (h : mg "FIRST" = some (.ref (He.ga K "FIRST"))) (e : firstB K = true) : GCon P w K mg "FIRST" (eS Plan.first) := by
  obtain ⟨e1, e2⟩ := He.ba e
  exact ⟨_, .ref _, h, He.relB_ok (by simp [He.relB]), fun F => .tup (He.tupB_ok e1 F) (.cons .non (.cons (.tup (tup0_ok e2 F) .nil) .nil))⟩
theorem at2 {K : PySem.W.Frag} {C : Addr} {a b : Str} (ha : NoAttr K C a) (hb : NoAttr K C b) : ∀ f ∈ [a, b], NoAttr K C f := fun f hf => by
  rcases List.mem_cons.mp hf with rfl | hf
  · exact ha
  · rw [List.mem_singleton.mp hf]; exact hb
theorem at3 {K : PySem.W.Frag} {C : Addr} {a b c : Str} (ha : NoAttr K C a) (hb : NoAttr K C b) (hc : NoAttr K C c) : ∀ f ∈ [a, b, c], NoAttr K C f := fun f hf => by
  rcases List.mem_cons.mp hf with rfl | hf
  · exact ha
  · exact at2 hb hc f hf
section
variable {M : Md} {x qual : Str} {pa : Arguments} {bd : List Stmt} {sc : Scope} {kws : List (Str × V)} {f : Addr} {fd : FuncData} {ps : List Str} {k n : Nat}
theorem mt_of {Cl : Addr} {C : Ct} (cl : Cls M.K Cl) (hm : Meth M.K Cl x f) (Fd : FunD M.K x qual pa bd sc [] kws f fd)
    (hb : ∀ (kV doc pm : Value) (an : Option Addr) (cdv ct : Value) (us : List Value), us.length = ps.length → bindArgs (PySem.W.fnOf x qual pa bd sc .none kV doc pm an cdv ct) ⟨us, []⟩ = pure (ps.zip us))
    (ok : FnOk M.P M.w M.K M.mg M.base CX0 k f fd ps (spC M.P M.w M.K n C)) : MtT M.P M.w M.K M.mg M.base Cl x k n C := ⟨cl, f, fd, ps, hm, Fd.bindsN hb, ok⟩
theorem mk_of {cn : Str} {Cl : Addr} {Ci : CtI} (gl : M.mg cn = some (.ref Cl)) (hm : Mk M.K Cl f) (Fd : FunD M.K x qual pa bd sc [] kws f fd)
    (hb : ∀ (kV doc pm : Value) (an : Option Addr) (cdv ct : Value) (us : List Value), us.length = ps.length → bindArgs (PySem.W.fnOf x qual pa bd sc .none kV doc pm an cdv ct) ⟨us, []⟩ = pure (ps.zip us))
    (ok : FnOk M.P M.w M.K M.mg M.base CX0 k f fd ps (spI M.P M.w M.K Cl n Ci)) : MkT M.P M.w M.K M.mg M.base cn Cl k n Ci := ⟨gl, f, fd, ps, hm, Fd.bindsN hb, ok⟩
theorem mk3_of {cn : Str} {Cl : Addr} {Ci : CtI} (gl : M.mg cn = some (.ref Cl)) (hm : Mk M.K Cl f) (Fd : FunD M.K x qual pa bd sc [] kws f fd)
    (hb : ∀ (kV doc pm : Value) (an : Option Addr) (cdv ct : Value) (us ws : List Value), us.length = 3 → ws.length = 1 → bindArgs (PySem.W.fnOf x qual pa bd sc .none kV doc pm an cdv ct) ⟨us, [("closed" : Str)].zip ws⟩ = pure (ps.zip (us ++ ws)))
    (ok : FnOk M.P M.w M.K M.mg M.base CX0 k f fd ps (spI M.P M.w M.K Cl 3 Ci)) : MkT3 M.P M.w M.K M.mg M.base cn Cl k Ci := by
  refine ⟨gl, f, fd, ps, hm, ⟨fun s us ws _ hu hw => ?_, fun r1 r2 => r1.append r2⟩, ok⟩
  obtain ⟨oc, od, dV, kV, doc, pm, an, cdv, ct, osl, rfl, lk, hcd, hD, hK⟩ := Fd.ex
  rcases hD with ⟨_, rfl⟩ | ⟨e, _⟩
  · exact .of_eq (hb kV doc pm an cdv ct us ws hu hw)
  · exact absurd rfl e
theorem vac_bare {CT : Addr} (_h : ps.length = 2) : FnOk M.P M.w M.K M.mg M.base CX0 2 f fd ps (spC M.P M.w M.K 2 (cBare CT 0)) :=
  ⟨fun vs H Q E h => by obtain ⟨F, ds, R, _, _, _, ⟨p, x, _, _, _, hx, _⟩, _⟩ := h; exact absurd hx (Nat.not_lt_zero _),
   fun A outer s H args us vs Q E _ _ _ _ h => by obtain ⟨F, ds, R, _, _, _, ⟨p, x, _, _, _, hx, _⟩, _⟩ := h; exact absurd hx (Nat.not_lt_zero _)⟩
theorem vac_lbare (_h : ps.length = 2) : FnOk M.P M.w M.K M.mg M.base CX0 0 f fd ps (spC M.P M.w M.K 2 (cLBare 0)) :=
  ⟨fun vs H Q E h => by obtain ⟨F, ds, R, _, _, _, ⟨p, x, _, _, _, hx, _⟩, _⟩ := h; exact absurd hx (Nat.not_lt_zero _),
   fun A outer s H args us vs Q E _ _ _ _ h => by obtain ⟨F, ds, R, _, _, _, ⟨p, x, _, _, _, hx, _⟩, _⟩ := h; exact absurd hx (Nat.not_lt_zero _)⟩
end
theorem law_told (M : Md) {h : Heap} {w : World} (X : M.K.In h) (G : h.Ns mainGlobals M.mg) (c : He.SaysX fa fn [] [] ex w h M.K) {fd : FuncData} (F_f_law : FunD M.K "law" "law" (defArgs (top 72)) (defBody (top 72)) (defScope (top 72)) [] [] (He.ga M.K "law") fd) : FnOk M.P M.w M.K M.mg M.base CX0 13 (He.ga M.K "law") fd ["_law_script"] (spC M.P M.w M.K 1 cLaw) := by
  have d := c.t.d
  obtain ⟨e_ways, e_more⟩ := He.ba c.more
  obtain ⟨e_first, e_more⟩ := He.ba e_more
  obtain ⟨e_Table, e_more⟩ := He.ba e_more
  obtain ⟨e_Safe, e_more⟩ := He.ba e_more
  obtain ⟨e_Broken, e_more⟩ := He.ba e_more
  obtain ⟨e_SB, e_BS⟩ := He.ba e_more
  have fx : Fx M (He.ga M.K "Table") (He.ga M.K "Safe") (He.ga M.K "Broken") := {
    n_len := He.free_ok X G (d.fact 0 rfl)
    n_all := He.free_ok X G (d.fact 1 rfl)
    n_sum := He.free_ok X G (d.fact 2 rfl)
    n_min := He.free_ok X G (d.fact 3 rfl)
    n_abs := He.free_ok X G (d.fact 4 rfl)
    n_isinstance := He.free_ok X G (d.fact 5 rfl)
    n_sorted := He.free_ok X G (d.fact 6 rfl)
    n_int := He.free_ok X G (d.fact 7 rfl)
    n_bool := He.free_ok X G (d.fact 8 rfl)
    n_str := He.free_ok X G (d.fact 9 rfl)
    n_tuple := He.free_ok X G (d.fact 10 rfl)
    n_list := He.free_ok X G (d.fact 11 rfl)
    n_dict := He.free_ok X G (d.fact 12 rfl)
    n_range := He.free_ok X G (d.fact 13 rfl)
    n_enumerate := He.free_ok X G (d.fact 14 rfl)
    n_zip := He.free_ok X G (d.fact 15 rfl)
    gFIRST := gc_first (He.glo_ok X G (d.fact 19 rfl)) e_first
    gWAYS := gc_ways (He.glo_ok X G (d.fact 20 rfl)) e_ways
    gMOST_MARKS := gc_int (He.int_ok X G (d.fact 16 rfl))
    gMOST_SIGNS := gc_int (He.int_ok X G (d.fact 17 rfl))
    gMOST_CLASS := gc_int (He.int_ok X G (d.fact 18 rfl))
    gT := He.glo_ok X G (d.fact 21 rfl)
    cT := He.cls_ok (d.fact 24 rfl)
    aT := at3 (He.noat_ok (d.fact 27 rfl)) (He.noat_ok (d.fact 28 rfl)) (He.noat_ok (d.fact 29 rfl))
    iT := isi_ok (He.cls_ok (d.fact 24 rfl)) e_Table
    gS := He.glo_ok X G (d.fact 22 rfl)
    cS := He.cls_ok (d.fact 25 rfl)
    aS := at2 (He.noat_ok (d.fact 30 rfl)) (He.noat_ok (d.fact 31 rfl))
    iS := isi_ok (He.cls_ok (d.fact 25 rfl)) e_Safe
    gB := He.glo_ok X G (d.fact 23 rfl)
    cB := He.cls_ok (d.fact 26 rfl)
    aB := at2 (He.noat_ok (d.fact 32 rfl)) (He.noat_ok (d.fact 33 rfl))
    iB := isi_ok (He.cls_ok (d.fact 26 rfl)) e_Broken
    kTT := kit_self _ _
    kSS := kit_self _ _
    kBB := kit_self _ _
    kSB := of_decide_eq_true e_SB
    kBS := of_decide_eq_true e_BS }
  obtain ⟨fd_f__law_draw, F0_f__law_draw⟩ := d.def_ 0 (d := dG "_law_draw" 46) rfl
  have F_f__law_draw : FunD M.K "_law_draw" "_law_draw" (defArgs (top 46)) (defBody (top 46)) (defScope (top 46)) [] [] (He.ga M.K "_law_draw") fd_f__law_draw := F0_f__law_draw
  have f__law_draw := fnT_of (M := M) (He.glo_ok X G (d.fact 34 rfl)) F_f__law_draw (fun _ _ _ _ _ _ us hl => match us, hl with | [_, _, _], _ => rfl) (ok_ldraw fx F_f__law_draw)
  obtain ⟨fd_f__law_cell_at, F0_f__law_cell_at⟩ := d.def_ 1 (d := dG "_law_cell_at" 47) rfl
  have F_f__law_cell_at : FunD M.K "_law_cell_at" "_law_cell_at" (defArgs (top 47)) (defBody (top 47)) (defScope (top 47)) [] [] (He.ga M.K "_law_cell_at") fd_f__law_cell_at := F0_f__law_cell_at
  have f__law_cell_at := fnT_of (M := M) (He.glo_ok X G (d.fact 35 rfl)) F_f__law_cell_at (fun _ _ _ _ _ _ us hl => match us, hl with | [_, _], _ => rfl) (ok_lcell fx f__law_draw F_f__law_cell_at)
  obtain ⟨fd_f__law_digits, F0_f__law_digits⟩ := d.def_ 2 (d := dG "_law_digits" 48) rfl
  have F_f__law_digits : FunD M.K "_law_digits" "_law_digits" (defArgs (top 48)) (defBody (top 48)) (defScope (top 48)) [] [] (He.ga M.K "_law_digits") fd_f__law_digits := F0_f__law_digits
  have f__law_digits := fnT_of (M := M) (He.glo_ok X G (d.fact 36 rfl)) F_f__law_digits (fun _ _ _ _ _ _ us hl => match us, hl with | [_, _, _, _], _ => rfl) (ok_ldigits fx f__law_cell_at f__law_draw F_f__law_digits)
  obtain ⟨fd_f__law_pool, F0_f__law_pool⟩ := d.def_ 3 (d := dG "_law_pool" 50) rfl
  have F_f__law_pool : FunD M.K "_law_pool" "_law_pool" (defArgs (top 50)) (defBody (top 50)) (defScope (top 50)) [] [] (He.ga M.K "_law_pool") fd_f__law_pool := F0_f__law_pool
  have f__law_pool := fnT_of (M := M) (He.glo_ok X G (d.fact 37 rfl)) F_f__law_pool (fun _ _ _ _ _ _ us hl => match us, hl with | [_, _], _ => rfl) (ok_lpool fx f__law_digits F_f__law_pool)
  obtain ⟨fd_f__law_take, F0_f__law_take⟩ := d.def_ 4 (d := dG "_law_take" 49) rfl
  have F_f__law_take : FunD M.K "_law_take" "_law_take" (defArgs (top 49)) (defBody (top 49)) (defScope (top 49)) [] [] (He.ga M.K "_law_take") fd_f__law_take := F0_f__law_take
  have f__law_take := fnT_of (M := M) (He.glo_ok X G (d.fact 38 rfl)) F_f__law_take (fun _ _ _ _ _ _ us hl => match us, hl with | [_, _], _ => rfl) (ok_ltake fx F_f__law_take)
  obtain ⟨fd_f__law_pick, F0_f__law_pick⟩ := d.def_ 5 (d := dG "_law_pick" 51) rfl
  have F_f__law_pick : FunD M.K "_law_pick" "_law_pick" (defArgs (top 51)) (defBody (top 51)) (defScope (top 51)) [] [] (He.ga M.K "_law_pick") fd_f__law_pick := F0_f__law_pick
  have f__law_pick := fnT_of (M := M) (He.glo_ok X G (d.fact 39 rfl)) F_f__law_pick (fun _ _ _ _ _ _ us hl => match us, hl with | [_, _], _ => rfl) (ok_lpick fx f__law_take F_f__law_pick)
  obtain ⟨fd_f__law_parts, F0_f__law_parts⟩ := d.def_ 6 (d := dG "_law_parts" 52) rfl
  have F_f__law_parts : FunD M.K "_law_parts" "_law_parts" (defArgs (top 52)) (defBody (top 52)) (defScope (top 52)) [] [] (He.ga M.K "_law_parts") fd_f__law_parts := F0_f__law_parts
  have f__law_parts := fnT_of (M := M) (He.glo_ok X G (d.fact 40 rfl)) F_f__law_parts (fun _ _ _ _ _ _ us hl => match us, hl with | [_, _], _ => rfl) (ok_lparts fx f__law_take f__law_pick F_f__law_parts)
  obtain ⟨fd_f_is_number, F0_f_is_number⟩ := d.def_ 7 (d := dG "is_number" 10) rfl
  have F_f_is_number : FunD M.K "is_number" "is_number" (defArgs (top 10)) (defBody (top 10)) (defScope (top 10)) [] [] (He.ga M.K "is_number") fd_f_is_number := F0_f_is_number
  have f_is_number := fnT_of (M := M) (He.glo_ok X G (d.fact 41 rfl)) F_f_is_number (fun _ _ _ _ _ _ us hl => match us, hl with | [_, _, _], _ => rfl) (ok_number fx F_f_is_number)
  obtain ⟨fd_f_are_classes, F0_f_are_classes⟩ := d.def_ 8 (d := dG "are_classes" 11) rfl
  have F_f_are_classes : FunD M.K "are_classes" "are_classes" (defArgs (top 11)) (defBody (top 11)) (defScope (top 11)) [] [] (He.ga M.K "are_classes") fd_f_are_classes := F0_f_are_classes
  have f_are_classes := fnT_of (M := M) (He.glo_ok X G (d.fact 42 rfl)) F_f_are_classes (fun _ _ _ _ _ _ us hl => match us, hl with | [_], _ => rfl) (ok_classes fx f_is_number F_f_are_classes)
  obtain ⟨fd_f_are_two, F0_f_are_two⟩ := d.def_ 9 (d := dG "are_two" 12) rfl
  have F_f_are_two : FunD M.K "are_two" "are_two" (defArgs (top 12)) (defBody (top 12)) (defScope (top 12)) [] [] (He.ga M.K "are_two") fd_f_are_two := F0_f_are_two
  have f_are_two := fnT_of (M := M) (He.glo_ok X G (d.fact 43 rfl)) F_f_are_two (fun _ _ _ _ _ _ us hl => match us, hl with | [_, _, _], _ => rfl) (ok_two fx f_is_number F_f_are_two)
  obtain ⟨fd_f_are_parts, F0_f_are_parts⟩ := d.def_ 10 (d := dG "are_parts" 13) rfl
  have F_f_are_parts : FunD M.K "are_parts" "are_parts" (defArgs (top 13)) (defBody (top 13)) (defScope (top 13)) [] [] (He.ga M.K "are_parts") fd_f_are_parts := F0_f_are_parts
  have f_are_parts := fnT_of (M := M) (He.glo_ok X G (d.fact 44 rfl)) F_f_are_parts (fun _ _ _ _ _ _ us hl => match us, hl with | [_, _], _ => rfl) (ok_parts fx f_is_number f_are_two F_f_are_parts)
  obtain ⟨fd_f_are_closed, F0_f_are_closed⟩ := d.def_ 11 (d := dG "are_closed" 14) rfl
  have F_f_are_closed : FunD M.K "are_closed" "are_closed" (defArgs (top 14)) (defBody (top 14)) (defScope (top 14)) [] [] (He.ga M.K "are_closed") fd_f_are_closed := F0_f_are_closed
  have f_are_closed := fnT_of (M := M) (He.glo_ok X G (d.fact 45 rfl)) F_f_are_closed (fun _ _ _ _ _ _ us hl => match us, hl with | [_, _], _ => rfl) (ok_closed fx f_is_number F_f_are_closed)
  obtain ⟨fd_k_Table, F0_k_Table⟩ := d.def_ 12 (d := dM "Table" "__init__" "Table.__init__" 15 0) rfl
  have F_k_Table : FunD M.K "__init__" "Table.__init__" (defArgs (meth 15 0)) (defBody (meth 15 0)) (defScope (meth 15 0)) [] [] (He.ma M.K (He.ga M.K "Table") "__init__") fd_k_Table := F0_k_Table
  have k_Table := mk3_of (M := M) fx.gT (He.mkr_ok (d.fact 46 rfl)) F_k_Table (fun _ _ _ _ _ _ us ws hl hw => match us, hl, ws, hw with | [_, _, _], _, [_], _ => rfl) (ok_initT fx f_are_classes f_are_parts f_are_closed F_k_Table)
  obtain ⟨fd_f__law_made, F0_f__law_made⟩ := d.def_ 13 (d := dG "_law_made" 53) rfl
  have F_f__law_made : FunD M.K "_law_made" "_law_made" (defArgs (top 53)) (defBody (top 53)) (defScope (top 53)) [] [] (He.ga M.K "_law_made") fd_f__law_made := F0_f__law_made
  have f__law_made := fnT_of (M := M) (He.glo_ok X G (d.fact 47 rfl)) F_f__law_made (fun _ _ _ _ _ _ us hl => match us, hl with | [_], _ => rfl) (ok_made fx k_Table F_f__law_made)
  obtain ⟨fd_f__law_bare, F0_f__law_bare⟩ := d.def_ 14 (d := dG "_law_bare" 54) rfl
  have F_f__law_bare : FunD M.K "_law_bare" "_law_bare" (defArgs (top 54)) (defBody (top 54)) (defScope (top 54)) [] [] (He.ga M.K "_law_bare") fd_f__law_bare := F0_f__law_bare
  have f__law_bare := fnT_of (M := M) (He.glo_ok X G (d.fact 48 rfl)) F_f__law_bare (fun _ _ _ _ _ _ us hl => match us, hl with | [_, _], _ => rfl) (vac_lbare (ps := ["_law_plan", "_law_sign"]) rfl)
  have f__law_bare := fnT_of (M := M) (He.glo_ok X G (d.fact 48 rfl)) F_f__law_bare (fun _ _ _ _ _ _ us hl => match us, hl with | [_, _], _ => rfl) (ok_lbare (m := 0) f__law_bare F_f__law_bare)
  have f__law_bare := fnT_of (M := M) (He.glo_ok X G (d.fact 48 rfl)) F_f__law_bare (fun _ _ _ _ _ _ us hl => match us, hl with | [_, _], _ => rfl) (ok_lbare (m := 1) f__law_bare F_f__law_bare)
  have f__law_bare := fnT_of (M := M) (He.glo_ok X G (d.fact 48 rfl)) F_f__law_bare (fun _ _ _ _ _ _ us hl => match us, hl with | [_, _], _ => rfl) (ok_lbare (m := 2) f__law_bare F_f__law_bare)
  have f__law_bare := fnT_of (M := M) (He.glo_ok X G (d.fact 48 rfl)) F_f__law_bare (fun _ _ _ _ _ _ us hl => match us, hl with | [_, _], _ => rfl) (ok_lbare (m := 3) f__law_bare F_f__law_bare)
  obtain ⟨fd_f__law_wrong_at, F0_f__law_wrong_at⟩ := d.def_ 15 (d := dG "_law_wrong_at" 56) rfl
  have F_f__law_wrong_at : FunD M.K "_law_wrong_at" "_law_wrong_at" (defArgs (top 56)) (defBody (top 56)) (defScope (top 56)) [] [] (He.ga M.K "_law_wrong_at") fd_f__law_wrong_at := F0_f__law_wrong_at
  have f__law_wrong_at := fnT_of (M := M) (He.glo_ok X G (d.fact 49 rfl)) F_f__law_wrong_at (fun _ _ _ _ _ _ us hl => match us, hl with | [_, _], _ => rfl) (ok_lwrong fx f__law_bare F_f__law_wrong_at)
  obtain ⟨fd_f__law_all_texts, F0_f__law_all_texts⟩ := d.def_ 16 (d := dG "_law_all_texts" 64) rfl
  have F_f__law_all_texts : FunD M.K "_law_all_texts" "_law_all_texts" (defArgs (top 64)) (defBody (top 64)) (defScope (top 64)) [] [] (He.ga M.K "_law_all_texts") fd_f__law_all_texts := F0_f__law_all_texts
  have f__law_all_texts := fnT_of (M := M) (He.glo_ok X G (d.fact 50 rfl)) F_f__law_all_texts (fun _ _ _ _ _ _ us hl => match us, hl with | [_, _], _ => rfl) (ok_ltexts fx f__law_wrong_at F_f__law_all_texts)
  obtain ⟨fd_f__law_text, F0_f__law_text⟩ := d.def_ 17 (d := dG "_law_text" 59) rfl
  have F_f__law_text : FunD M.K "_law_text" "_law_text" (defArgs (top 59)) (defBody (top 59)) (defScope (top 59)) [] [] (He.ga M.K "_law_text") fd_f__law_text := F0_f__law_text
  have f__law_text := fnT_of (M := M) (He.glo_ok X G (d.fact 51 rfl)) F_f__law_text (fun _ _ _ _ _ _ us hl => match us, hl with | [_, _, _], _ => rfl) (ok_ltext fx f__law_take f__law_wrong_at F_f__law_text)
  obtain ⟨fd_f_check_table, F0_f_check_table⟩ := d.def_ 18 (d := dG "check_table" 16) rfl
  have F_f_check_table : FunD M.K "check_table" "check_table" (defArgs (top 16)) (defBody (top 16)) (defScope (top 16)) [] [] (He.ga M.K "check_table") fd_f_check_table := F0_f_check_table
  have f_check_table := fnT_of (M := M) (He.glo_ok X G (d.fact 52 rfl)) F_f_check_table (fun _ _ _ _ _ _ us hl => match us, hl with | [_], _ => rfl) (ok_checkTable fx F_f_check_table)
  obtain ⟨fd_f_check_way, F0_f_check_way⟩ := d.def_ 19 (d := dG "check_way" 21) rfl
  have F_f_check_way : FunD M.K "check_way" "check_way" (defArgs (top 21)) (defBody (top 21)) (defScope (top 21)) [] [] (He.ga M.K "check_way") fd_f_check_way := F0_f_check_way
  have f_check_way := fnT_of (M := M) (He.glo_ok X G (d.fact 53 rfl)) F_f_check_way (fun _ _ _ _ _ _ us hl => match us, hl with | [_, _], _ => rfl) (ok_checkWay fx f_check_table F_f_check_way)
  obtain ⟨fd_m_CT___len__, F0_m_CT___len__⟩ := d.def_ 20 (d := dM "Table" "__len__" "Table.__len__" 15 3) rfl
  have F_m_CT___len__ : FunD M.K "__len__" "Table.__len__" (defArgs (meth 15 3)) (defBody (meth 15 3)) (defScope (meth 15 3)) [] [] (He.ma M.K (He.ga M.K "Table") "__len__") fd_m_CT___len__ := F0_m_CT___len__
  have m_CT___len__ := mt_of (M := M) fx.cT (He.meth_ok (d.fact 54 rfl)) F_m_CT___len__ (fun _ _ _ _ _ _ us hl => match us, hl with | [_], _ => rfl) (ok_len fx F_m_CT___len__)
  obtain ⟨fd_m_CT_check_sign, F0_m_CT_check_sign⟩ := d.def_ 21 (d := dM "Table" "check_sign" "Table.check_sign" 15 7) rfl
  have F_m_CT_check_sign : FunD M.K "check_sign" "Table.check_sign" (defArgs (meth 15 7)) (defBody (meth 15 7)) (defScope (meth 15 7)) [] [] (He.ma M.K (He.ga M.K "Table") "check_sign") fd_m_CT_check_sign := F0_m_CT_check_sign
  have m_CT_check_sign := mt_of (M := M) fx.cT (He.meth_ok (d.fact 55 rfl)) F_m_CT_check_sign (fun _ _ _ _ _ _ us hl => match us, hl with | [_, _], _ => rfl) (ok_check fx f_is_number F_m_CT_check_sign)
  obtain ⟨fd_m_CT_bare, F0_m_CT_bare⟩ := d.def_ 22 (d := dM "Table" "bare" "Table.bare" 15 8) rfl
  have F_m_CT_bare : FunD M.K "bare" "Table.bare" (defArgs (meth 15 8)) (defBody (meth 15 8)) (defScope (meth 15 8)) [] [] (He.ma M.K (He.ga M.K "Table") "bare") fd_m_CT_bare := F0_m_CT_bare
  have m_CT_bare := mt_of (M := M) fx.cT (He.meth_ok (d.fact 56 rfl)) F_m_CT_bare (fun _ _ _ _ _ _ us hl => match us, hl with | [_, _], _ => rfl) (vac_bare (CT := He.ga M.K "Table") (ps := nCheck) rfl)
  have m_CT_bare := mt_of (M := M) fx.cT (He.meth_ok (d.fact 56 rfl)) F_m_CT_bare (fun _ _ _ _ _ _ us hl => match us, hl with | [_, _], _ => rfl) (ok_bare (m := 0) fx m_CT_check_sign m_CT_bare F_m_CT_bare)
  have m_CT_bare := mt_of (M := M) fx.cT (He.meth_ok (d.fact 56 rfl)) F_m_CT_bare (fun _ _ _ _ _ _ us hl => match us, hl with | [_, _], _ => rfl) (ok_bare (m := 1) fx m_CT_check_sign m_CT_bare F_m_CT_bare)
  have m_CT_bare := mt_of (M := M) fx.cT (He.meth_ok (d.fact 56 rfl)) F_m_CT_bare (fun _ _ _ _ _ _ us hl => match us, hl with | [_, _], _ => rfl) (ok_bare (m := 2) fx m_CT_check_sign m_CT_bare F_m_CT_bare)
  have m_CT_bare := mt_of (M := M) fx.cT (He.meth_ok (d.fact 56 rfl)) F_m_CT_bare (fun _ _ _ _ _ _ us hl => match us, hl with | [_, _], _ => rfl) (ok_bare (m := 3) fx m_CT_check_sign m_CT_bare F_m_CT_bare)
  obtain ⟨fd_f_wrong_at, F0_f_wrong_at⟩ := d.def_ 23 (d := dG "wrong_at" 22) rfl
  have F_f_wrong_at : FunD M.K "wrong_at" "wrong_at" (defArgs (top 22)) (defBody (top 22)) (defScope (top 22)) [] [] (He.ga M.K "wrong_at") fd_f_wrong_at := F0_f_wrong_at
  have f_wrong_at := fnT_of (M := M) (He.glo_ok X G (d.fact 57 rfl)) F_f_wrong_at (fun _ _ _ _ _ _ us hl => match us, hl with | [_, _], _ => rfl) (ok_wrong fx f_is_number m_CT___len__ m_CT_bare F_f_wrong_at)
  obtain ⟨fd_f_check_text, F0_f_check_text⟩ := d.def_ 24 (d := dG "check_text" 24) rfl
  have F_f_check_text : FunD M.K "check_text" "check_text" (defArgs (top 24)) (defBody (top 24)) (defScope (top 24)) [] [] (He.ga M.K "check_text") fd_f_check_text := F0_f_check_text
  have f_check_text := fnT_of (M := M) (He.glo_ok X G (d.fact 58 rfl)) F_f_check_text (fun _ _ _ _ _ _ us hl => match us, hl with | [_, _, _], _ => rfl) (ok_checkText fx f_check_way f_wrong_at F_f_check_text)
  obtain ⟨fd_m_CT_joined, F0_m_CT_joined⟩ := d.def_ 25 (d := dM "Table" "joined" "Table.joined" 15 9) rfl
  have F_m_CT_joined : FunD M.K "joined" "Table.joined" (defArgs (meth 15 9)) (defBody (meth 15 9)) (defScope (meth 15 9)) [] [] (He.ma M.K (He.ga M.K "Table") "joined") fd_m_CT_joined := F0_m_CT_joined
  have m_CT_joined := mt_of (M := M) fx.cT (He.meth_ok (d.fact 59 rfl)) F_m_CT_joined (fun _ _ _ _ _ _ us hl => match us, hl with | [_, _, _], _ => rfl) (ok_joined fx m_CT_check_sign F_m_CT_joined)
  obtain ⟨fd_f_with_mark, F0_f_with_mark⟩ := d.def_ 26 (d := dG "with_mark" 26) rfl
  have F_f_with_mark : FunD M.K "with_mark" "with_mark" (defArgs (top 26)) (defBody (top 26)) (defScope (top 26)) [] [] (He.ga M.K "with_mark") fd_f_with_mark := F0_f_with_mark
  have f_with_mark := fnT_of (M := M) (He.glo_ok X G (d.fact 60 rfl)) F_f_with_mark (fun _ _ _ _ _ _ us hl => match us, hl with | [_, _, _], _ => rfl) (ok_withMark fx F_f_with_mark)
  obtain ⟨fd_f_held_back, F0_f_held_back⟩ := d.def_ 27 (d := dG "held_back" 25) rfl
  have F_f_held_back : FunD M.K "held_back" "held_back" (defArgs (top 25)) (defBody (top 25)) (defScope (top 25)) [] [] (He.ga M.K "held_back") fd_f_held_back := F0_f_held_back
  have f_held_back := fnT_of (M := M) (He.glo_ok X G (d.fact 61 rfl)) F_f_held_back (fun _ _ _ _ _ _ us hl => match us, hl with | [_, _, _], _ => rfl) (ok_held fx m_CT_joined F_f_held_back)
  obtain ⟨fd_f_read_bare, F0_f_read_bare⟩ := d.def_ 28 (d := dG "read_bare" 27) rfl
  have F_f_read_bare : FunD M.K "read_bare" "read_bare" (defArgs (top 27)) (defBody (top 27)) (defScope (top 27)) [] [] (He.ga M.K "read_bare") fd_f_read_bare := F0_f_read_bare
  have f_read_bare := fnT_of (M := M) (He.glo_ok X G (d.fact 62 rfl)) F_f_read_bare (fun _ _ _ _ _ _ us hl => match us, hl with | [_, _, _, _], _ => rfl) (ok_readBare fx m_CT_joined f_with_mark f_held_back F_f_read_bare)
  obtain ⟨fd_f_read_sign, F0_f_read_sign⟩ := d.def_ 29 (d := dG "read_sign" 28) rfl
  have F_f_read_sign : FunD M.K "read_sign" "read_sign" (defArgs (top 28)) (defBody (top 28)) (defScope (top 28)) [] [] (He.ga M.K "read_sign") fd_f_read_sign := F0_f_read_sign
  have f_read_sign := fnT_of (M := M) (He.glo_ok X G (d.fact 63 rfl)) F_f_read_sign (fun _ _ _ _ _ _ us hl => match us, hl with | [_, _, _, _], _ => rfl) (ok_readSign fx m_CT_bare f_read_bare F_f_read_sign)
  obtain ⟨fd_f_made_plain, F0_f_made_plain⟩ := d.def_ 30 (d := dG "made_plain" 29) rfl
  have F_f_made_plain : FunD M.K "made_plain" "made_plain" (defArgs (top 29)) (defBody (top 29)) (defScope (top 29)) [] [] (He.ga M.K "made_plain") fd_f_made_plain := F0_f_made_plain
  have f_made_plain := fnT_of (M := M) (He.glo_ok X G (d.fact 64 rfl)) F_f_made_plain (fun _ _ _ _ _ _ us hl => match us, hl with | [_, _, _], _ => rfl) (ok_plain fx f_read_sign f_held_back F_f_made_plain)
  obtain ⟨fd_f_are_harmless, F0_f_are_harmless⟩ := d.def_ 31 (d := dG "are_harmless" 32) rfl
  have F_f_are_harmless : FunD M.K "are_harmless" "are_harmless" (defArgs (top 32)) (defBody (top 32)) (defScope (top 32)) [] [] (He.ga M.K "are_harmless") fd_f_are_harmless := F0_f_are_harmless
  have f_are_harmless := fnT_of (M := M) (He.glo_ok X G (d.fact 65 rfl)) F_f_are_harmless (fun _ _ _ _ _ _ us hl => match us, hl with | [_, _, _, _], _ => rfl) (ok_harm fx f_made_plain F_f_are_harmless)
  obtain ⟨fd_f_is_harmless, F0_f_is_harmless⟩ := d.def_ 32 (d := dG "is_harmless" 40) rfl
  have F_f_is_harmless : FunD M.K "is_harmless" "is_harmless" (defArgs (top 40)) (defBody (top 40)) (defScope (top 40)) [] [] (He.ga M.K "is_harmless") fd_f_is_harmless := F0_f_is_harmless
  have f_is_harmless := fnT_of (M := M) (He.glo_ok X G (d.fact 66 rfl)) F_f_is_harmless (fun _ _ _ _ _ _ us hl => match us, hl with | [_, _, _, _], _ => rfl) (ok_isHarm fx f_check_text f_wrong_at f_are_harmless F_f_is_harmless)
  obtain ⟨fd_f__law_ordered, F0_f__law_ordered⟩ := d.def_ 33 (d := dG "_law_ordered" 57) rfl
  have F_f__law_ordered : FunD M.K "_law_ordered" "_law_ordered" (defArgs (top 57)) (defBody (top 57)) (defScope (top 57)) [] [] (He.ga M.K "_law_ordered") fd_f__law_ordered := F0_f__law_ordered
  have f__law_ordered := fnT_of (M := M) (He.glo_ok X G (d.fact 67 rfl)) F_f__law_ordered (fun _ _ _ _ _ _ us hl => match us, hl with | [_, _], _ => rfl) (ok_lordered fx f__law_bare F_f__law_ordered)
  obtain ⟨fd_f__law_joined, F0_f__law_joined⟩ := d.def_ 34 (d := dG "_law_joined" 55) rfl
  have F_f__law_joined : FunD M.K "_law_joined" "_law_joined" (defArgs (top 55)) (defBody (top 55)) (defScope (top 55)) [] [] (He.ga M.K "_law_joined") fd_f__law_joined := F0_f__law_joined
  have f__law_joined := fnT_of (M := M) (He.glo_ok X G (d.fact 68 rfl)) F_f__law_joined (fun _ _ _ _ _ _ us hl => match us, hl with | [_, _, _], _ => rfl) (ok_ljoined F_f__law_joined)
  obtain ⟨fd_f__law_plain, F0_f__law_plain⟩ := d.def_ 35 (d := dG "_law_plain" 58) rfl
  have F_f__law_plain : FunD M.K "_law_plain" "_law_plain" (defArgs (top 58)) (defBody (top 58)) (defScope (top 58)) [] [] (He.ga M.K "_law_plain") fd_f__law_plain := F0_f__law_plain
  have f__law_plain := fnT_of (M := M) (He.glo_ok X G (d.fact 69 rfl)) F_f__law_plain (fun _ _ _ _ _ _ us hl => match us, hl with | [_, _, _], _ => rfl) (ok_lplain fx f__law_ordered f__law_joined F_f__law_plain)
  obtain ⟨fd_f__law_is_fine, F0_f__law_is_fine⟩ := d.def_ 36 (d := dG "_law_is_fine" 63) rfl
  have F_f__law_is_fine : FunD M.K "_law_is_fine" "_law_is_fine" (defArgs (top 63)) (defBody (top 63)) (defScope (top 63)) [] [] (He.ga M.K "_law_is_fine") fd_f__law_is_fine := F0_f__law_is_fine
  have f__law_is_fine := fnT_of (M := M) (He.glo_ok X G (d.fact 70 rfl)) F_f__law_is_fine (fun _ _ _ _ _ _ us hl => match us, hl with | [_, _, _, _], _ => rfl) (ok_lfine f__law_plain F_f__law_is_fine)
  obtain ⟨fd_f_standings_of, F0_f_standings_of⟩ := d.def_ 37 (d := dG "standings_of" 30) rfl
  have F_f_standings_of : FunD M.K "standings_of" "standings_of" (defArgs (top 30)) (defBody (top 30)) (defScope (top 30)) [] [] (He.ga M.K "standings_of") fd_f_standings_of := F0_f_standings_of
  have f_standings_of := fnT_of (M := M) (He.glo_ok X G (d.fact 71 rfl)) F_f_standings_of (fun _ _ _ _ _ _ us hl => match us, hl with | [_, _], _ => rfl) (ok_standings fx m_CT___len__ f_read_sign F_f_standings_of)
  obtain ⟨fd_f_cut_at, F0_f_cut_at⟩ := d.def_ 38 (d := dG "cut_at" 33) rfl
  have F_f_cut_at : FunD M.K "cut_at" "cut_at" (defArgs (top 33)) (defBody (top 33)) (defScope (top 33)) [] [] (He.ga M.K "cut_at") fd_f_cut_at := F0_f_cut_at
  have f_cut_at := fnT_of (M := M) (He.glo_ok X G (d.fact 72 rfl)) F_f_cut_at (fun _ _ _ _ _ _ us hl => match us, hl with | [_, _, _], _ => rfl) (ok_cut fx f_held_back F_f_cut_at)
  obtain ⟨fd_f_is_even, F0_f_is_even⟩ := d.def_ 39 (d := dG "is_even" 34) rfl
  have F_f_is_even : FunD M.K "is_even" "is_even" (defArgs (top 34)) (defBody (top 34)) (defScope (top 34)) [] [] (He.ga M.K "is_even") fd_f_is_even := F0_f_is_even
  have f_is_even := fnT_of (M := M) (He.glo_ok X G (d.fact 73 rfl)) F_f_is_even (fun _ _ _ _ _ _ us hl => match us, hl with | [_, _, _], _ => rfl) (ok_even fx f_held_back F_f_is_even)
  obtain ⟨fd_f_seam_behind, F0_f_seam_behind⟩ := d.def_ 40 (d := dG "seam_behind" 35) rfl
  have F_f_seam_behind : FunD M.K "seam_behind" "seam_behind" (defArgs (top 35)) (defBody (top 35)) (defScope (top 35)) [] [] (He.ga M.K "seam_behind") fd_f_seam_behind := F0_f_seam_behind
  have f_seam_behind := fnT_of (M := M) (He.glo_ok X G (d.fact 74 rfl)) F_f_seam_behind (fun _ _ _ _ _ _ us hl => match us, hl with | [_, _, _, _], _ => rfl) (ok_behind fx f_read_sign f_is_even F_f_seam_behind)
  obtain ⟨fd_k_Safe, F0_k_Safe⟩ := d.def_ 41 (d := dM "Safe" "__init__" "Safe.__init__" 36 0) rfl
  have F_k_Safe : FunD M.K "__init__" "Safe.__init__" (defArgs (meth 36 0)) (defBody (meth 36 0)) (defScope (meth 36 0)) [] [] (He.ma M.K (He.ga M.K "Safe") "__init__") fd_k_Safe := F0_k_Safe
  have k_Safe := mk_of (M := M) fx.gS (He.mkr_ok (d.fact 75 rfl)) F_k_Safe (fun _ _ _ _ _ _ us hl => match us, hl with | [_, _, _], _ => rfl) (ok_initS fx F_k_Safe)
  obtain ⟨fd_k_Broken, F0_k_Broken⟩ := d.def_ 42 (d := dM "Broken" "__init__" "Broken.__init__" 37 0) rfl
  have F_k_Broken : FunD M.K "__init__" "Broken.__init__" (defArgs (meth 37 0)) (defBody (meth 37 0)) (defScope (meth 37 0)) [] [] (He.ma M.K (He.ga M.K "Broken") "__init__") fd_k_Broken := F0_k_Broken
  have k_Broken := mk_of (M := M) fx.gB (He.mkr_ok (d.fact 76 rfl)) F_k_Broken (fun _ _ _ _ _ _ us hl => match us, hl with | [_, _, _], _ => rfl) (ok_initB fx F_k_Broken)
  obtain ⟨fd_f_judged, F0_f_judged⟩ := d.def_ 43 (d := dG "judged" 39) rfl
  have F_f_judged : FunD M.K "judged" "judged" (defArgs (top 39)) (defBody (top 39)) (defScope (top 39)) [] [] (He.ga M.K "judged") fd_f_judged := F0_f_judged
  have f_judged := fnT_of (M := M) (He.glo_ok X G (d.fact 77 rfl)) F_f_judged (fun _ _ _ _ _ _ us hl => match us, hl with | [_, _, _], _ => rfl) (ok_judged fx f_standings_of f_cut_at f_seam_behind m_CT___len__ k_Safe k_Broken F_f_judged)
  obtain ⟨fd_f_safe_starts, F0_f_safe_starts⟩ := d.def_ 44 (d := dG "safe_starts" 44) rfl
  have F_f_safe_starts : FunD M.K "safe_starts" "safe_starts" (defArgs (top 44)) (defBody (top 44)) (defScope (top 44)) [] [] (He.ga M.K "safe_starts") fd_f_safe_starts := F0_f_safe_starts
  have f_safe_starts := fnT_of (M := M) (He.glo_ok X G (d.fact 78 rfl)) F_f_safe_starts (fun _ _ _ _ _ _ us hl => match us, hl with | [_, _], _ => rfl) (ok_safeStarts fx f_check_way m_CT___len__ f_judged F_f_safe_starts)
  obtain ⟨fd_f_check_start, F0_f_check_start⟩ := d.def_ 45 (d := dG "check_start" 38) rfl
  have F_f_check_start : FunD M.K "check_start" "check_start" (defArgs (top 38)) (defBody (top 38)) (defScope (top 38)) [] [] (He.ga M.K "check_start") fd_f_check_start := F0_f_check_start
  have f_check_start := fnT_of (M := M) (He.glo_ok X G (d.fact 79 rfl)) F_f_check_start (fun _ _ _ _ _ _ us hl => match us, hl with | [_, _, _], _ => rfl) (ok_checkStart fx f_check_way f_is_number m_CT___len__ F_f_check_start)
  obtain ⟨fd_f_judge, F0_f_judge⟩ := d.def_ 46 (d := dG "judge" 41) rfl
  have F_f_judge : FunD M.K "judge" "judge" (defArgs (top 41)) (defBody (top 41)) (defScope (top 41)) [] [] (He.ga M.K "judge") fd_f_judge := F0_f_judge
  have f_judge := fnT_of (M := M) (He.glo_ok X G (d.fact 80 rfl)) F_f_judge (fun _ _ _ _ _ _ us hl => match us, hl with | [_, _, _], _ => rfl) (ok_judge fx f_check_start f_judged F_f_judge)
  obtain ⟨fd_f_is_safe, F0_f_is_safe⟩ := d.def_ 47 (d := dG "is_safe" 42) rfl
  have F_f_is_safe : FunD M.K "is_safe" "is_safe" (defArgs (top 42)) (defBody (top 42)) (defScope (top 42)) [] [] (He.ga M.K "is_safe") fd_f_is_safe := F0_f_is_safe
  have f_is_safe := fnT_of (M := M) (He.glo_ok X G (d.fact 81 rfl)) F_f_is_safe (fun _ _ _ _ _ _ us hl => match us, hl with | [_, _, _], _ => rfl) (ok_isSafe fx f_judge F_f_is_safe)
  obtain ⟨fd_f__law_fewest, F0_f__law_fewest⟩ := d.def_ 48 (d := dG "_law_fewest" 65) rfl
  have F_f__law_fewest : FunD M.K "_law_fewest" "_law_fewest" (defArgs (top 65)) (defBody (top 65)) (defScope (top 65)) [] [] (He.ga M.K "_law_fewest") fd_f__law_fewest := F0_f__law_fewest
  have f__law_fewest := fnT_of (M := M) (He.glo_ok X G (d.fact 82 rfl)) F_f__law_fewest (fun _ _ _ _ _ _ us hl => match us, hl with | [_, _, _, _], _ => rfl) (ok_lfewest fx f__law_is_fine F_f__law_fewest)
  obtain ⟨fd_f_soonest, F0_f_soonest⟩ := d.def_ 49 (d := dG "soonest" 43) rfl
  have F_f_soonest : FunD M.K "soonest" "soonest" (defArgs (top 43)) (defBody (top 43)) (defScope (top 43)) [] [] (He.ga M.K "soonest") fd_f_soonest := F0_f_soonest
  have f_soonest := fnT_of (M := M) (He.glo_ok X G (d.fact 83 rfl)) F_f_soonest (fun _ _ _ _ _ _ us hl => match us, hl with | [_, _, _], _ => rfl) (ok_soon fx f_judge F_f_soonest)
  obtain ⟨fd_m_CS_shows, F0_m_CS_shows⟩ := d.def_ 50 (d := dM "Safe" "shows" "Safe.shows" 36 2) rfl
  have F_m_CS_shows : FunD M.K "shows" "Safe.shows" (defArgs (meth 36 2)) (defBody (meth 36 2)) (defScope (meth 36 2)) [] [] (He.ma M.K (He.ga M.K "Safe") "shows") fd_m_CS_shows := F0_m_CS_shows
  have m_CS_shows := mt_of (M := M) fx.cS (He.meth_ok (d.fact 84 rfl)) F_m_CS_shows (fun _ _ _ _ _ _ us hl => match us, hl with | [_, _, _, _], _ => rfl) (ok_showsS fx f_check_start m_CT___len__ f_read_sign f_is_even f_cut_at f_seam_behind F_m_CS_shows)
  obtain ⟨fd_f_is_tame, F0_f_is_tame⟩ := d.def_ 51 (d := dG "is_tame" 23) rfl
  have F_f_is_tame : FunD M.K "is_tame" "is_tame" (defArgs (top 23)) (defBody (top 23)) (defScope (top 23)) [] [] (He.ga M.K "is_tame") fd_f_is_tame := F0_f_is_tame
  have f_is_tame := fnT_of (M := M) (He.glo_ok X G (d.fact 85 rfl)) F_f_is_tame (fun _ _ _ _ _ _ us hl => match us, hl with | [_, _], _ => rfl) (ok_tame fx f_wrong_at F_f_is_tame)
  obtain ⟨fd_m_CB_shows, F0_m_CB_shows⟩ := d.def_ 52 (d := dM "Broken" "shows" "Broken.shows" 37 2) rfl
  have F_m_CB_shows : FunD M.K "shows" "Broken.shows" (defArgs (meth 37 2)) (defBody (meth 37 2)) (defScope (meth 37 2)) [] [] (He.ma M.K (He.ga M.K "Broken") "shows") fd_m_CB_shows := F0_m_CB_shows
  have m_CB_shows := mt_of (M := M) fx.cB (He.meth_ok (d.fact 86 rfl)) F_m_CB_shows (fun _ _ _ _ _ _ us hl => match us, hl with | [_, _, _, _], _ => rfl) (ok_showsB fx f_check_start f_is_tame f_are_harmless F_m_CB_shows)
  obtain ⟨fd_f__law_held, F0_f__law_held⟩ := d.def_ 53 (d := dG "_law_held" 60) rfl
  have F_f__law_held : FunD M.K "_law_held" "_law_held" (defArgs (top 60)) (defBody (top 60)) (defScope (top 60)) [] [] (He.ga M.K "_law_held") fd_f__law_held := F0_f__law_held
  have f__law_held := fnT_of (M := M) (He.glo_ok X G (d.fact 87 rfl)) F_f__law_held (fun _ _ _ _ _ _ us hl => match us, hl with | [_, _, _], _ => rfl) (ok_lheld fx f__law_joined F_f__law_held)
  obtain ⟨fd_f__law_is_even, F0_f__law_is_even⟩ := d.def_ 54 (d := dG "_law_is_even" 67) rfl
  have F_f__law_is_even : FunD M.K "_law_is_even" "_law_is_even" (defArgs (top 67)) (defBody (top 67)) (defScope (top 67)) [] [] (He.ga M.K "_law_is_even") fd_f__law_is_even := F0_f__law_is_even
  have f__law_is_even := fnT_of (M := M) (He.glo_ok X G (d.fact 88 rfl)) F_f__law_is_even (fun _ _ _ _ _ _ us hl => match us, hl with | [_, _, _], _ => rfl) (ok_leven f__law_held F_f__law_is_even)
  obtain ⟨fd_f__law_read, F0_f__law_read⟩ := d.def_ 55 (d := dG "_law_read" 61) rfl
  have F_f__law_read : FunD M.K "_law_read" "_law_read" (defArgs (top 61)) (defBody (top 61)) (defScope (top 61)) [] [] (He.ga M.K "_law_read") fd_f__law_read := F0_f__law_read
  have f__law_read := fnT_of (M := M) (He.glo_ok X G (d.fact 89 rfl)) F_f__law_read (fun _ _ _ _ _ _ us hl => match us, hl with | [_, _, _, _], _ => rfl) (ok_lread fx f__law_bare f__law_held f__law_joined F_f__law_read)
  obtain ⟨fd_f__law_behind, F0_f__law_behind⟩ := d.def_ 56 (d := dG "_law_behind" 66) rfl
  have F_f__law_behind : FunD M.K "_law_behind" "_law_behind" (defArgs (top 66)) (defBody (top 66)) (defScope (top 66)) [] [] (He.ga M.K "_law_behind") fd_f__law_behind := F0_f__law_behind
  have f__law_behind := fnT_of (M := M) (He.glo_ok X G (d.fact 90 rfl)) F_f__law_behind (fun _ _ _ _ _ _ us hl => match us, hl with | [_, _, _, _], _ => rfl) (ok_lbehind fx f__law_read f__law_is_even F_f__law_behind)
  obtain ⟨fd_f__law_shows, F0_f__law_shows⟩ := d.def_ 57 (d := dG "_law_shows" 68) rfl
  have F_f__law_shows : FunD M.K "_law_shows" "_law_shows" (defArgs (top 68)) (defBody (top 68)) (defScope (top 68)) [] [] (He.ga M.K "_law_shows") fd_f__law_shows := F0_f__law_shows
  have f__law_shows := fnT_of (M := M) (He.glo_ok X G (d.fact 91 rfl)) F_f__law_shows (fun _ _ _ _ _ _ us hl => match us, hl with | [_, _, _, _, _], _ => rfl) (ok_lshows fx f__law_is_even f__law_read f__law_behind f__law_held F_f__law_shows)
  obtain ⟨fd_f__law_is_broken, F0_f__law_is_broken⟩ := d.def_ 58 (d := dG "_law_is_broken" 69) rfl
  have F_f__law_is_broken : FunD M.K "_law_is_broken" "_law_is_broken" (defArgs (top 69)) (defBody (top 69)) (defScope (top 69)) [] [] (He.ga M.K "_law_is_broken") fd_f__law_is_broken := F0_f__law_is_broken
  have f__law_is_broken := fnT_of (M := M) (He.glo_ok X G (d.fact 92 rfl)) F_f__law_is_broken (fun _ _ _ _ _ _ us hl => match us, hl with | [_, _, _, _, _], _ => rfl) (ok_lbroken f__law_wrong_at f__law_is_fine F_f__law_is_broken)
  obtain ⟨fd_f__law_pieces_right, F0_f__law_pieces_right⟩ := d.def_ 59 (d := dG "_law_pieces_right" 70) rfl
  have F_f__law_pieces_right : FunD M.K "_law_pieces_right" "_law_pieces_right" (defArgs (top 70)) (defBody (top 70)) (defScope (top 70)) [] [] (He.ga M.K "_law_pieces_right") fd_f__law_pieces_right := F0_f__law_pieces_right
  have f__law_pieces_right := fnT_of (M := M) (He.glo_ok X G (d.fact 93 rfl)) F_f__law_pieces_right (fun _ _ _ _ _ _ us hl => match us, hl with | [_, _, _, _, _, _], _ => rfl) (ok_lpieces fx f__law_take k_Broken m_CB_shows f__law_is_broken F_f__law_pieces_right)
  obtain ⟨fd_f__law_start_right, F0_f__law_start_right⟩ := d.def_ 60 (d := dG "_law_start_right" 71) rfl
  have F_f__law_start_right : FunD M.K "_law_start_right" "_law_start_right" (defArgs (top 71)) (defBody (top 71)) (defScope (top 71)) [] [] (He.ga M.K "_law_start_right") fd_f__law_start_right := F0_f__law_start_right
  have f__law_start_right := fnT_of (M := M) (He.glo_ok X G (d.fact 94 rfl)) F_f__law_start_right (fun _ _ _ _ _ _ us hl => match us, hl with | [_, _, _, _, _, _], _ => rfl) (ok_lstart fx f__law_take f__law_fewest f_judge f_soonest f_is_safe k_Safe m_CS_shows m_CB_shows f__law_shows f__law_is_broken f__law_pieces_right F_f__law_start_right)
  exact ok_law fx f__law_pool f__law_parts f__law_take f__law_made f__law_all_texts f__law_text f_is_harmless f__law_is_fine f_safe_starts f_is_safe f__law_start_right F_f_law
theorem law_def {K : PySem.W.Frag} (d : He.SaysD fa fn K) : ∃ fd : FuncData, FunD K "law" "law" (defArgs (top 72)) (defBody (top 72)) (defScope (top 72)) [] [] (He.ga K "law") fd ∧ ∀ (s : Shared) (v : Value), BindsTo s fd ⟨[v], []⟩ [("_law_script", v)] := by
  obtain ⟨fd, F⟩ := d.def_ 61 (d := dG "law" 72) rfl
  have F : FunD K "law" "law" (defArgs (top 72)) (defBody (top 72)) (defScope (top 72)) [] [] (He.ga K "law") fd := F
  exact ⟨fd, F, fun s v => FunD.bindsA (ps := ["_law_script"]) F (fun _ _ _ _ _ _ us hl => match us, hl with | [_], _ => rfl) s [v] rfl⟩
theorem law_glo {K : PySem.W.Frag} {h : Heap} {mg : Str → Option Value} (X : K.In h) (G : h.Ns mainGlobals mg) (d : He.SaysD fa fn K) : mg "law" = some (.ref (He.ga K "law")) := He.glo_ok X G (d.fact 95 rfl)

end W3
end
set_option Elab.async false
set_option linter.all false
set_option maxRecDepth 100000
set_option maxHeartbeats 0
/-! YB: the head and the end. -/
namespace W3
open PySem PySem.Spec PyProof.Rows L2 Pl
theorem walk_ofEB {l : PySem.W.OpenLaw} {n k : Nat} {q : Program} {loose : List Str} {XP : (Str → Option Value) → Heap → Prop} {YP : World → Heap → Prop} {d : DefRec} {CX : CXT} {x : Str}
    (hn : l.most = some n) (hn2 : n ≤ sizeLine) (hdf : d.params.defaults = []) (hr : Room k callerA)
    (F : ∀ (w : World) (mg : Str → Option Value) (fa : Addr) (h : Heap), YP w h → h.Ns mainGlobals mg → mg d.name = some (.ref fa) →
      ∃ (K : PySem.W.Frag) (fd : FuncData) (sp : Sp), K.In h ∧ (∀ (s : Shared) (u : Value), BindsTo s fd ⟨[u], []⟩ [(x, u)]) ∧
        (∀ (H : Hp) (a : Addr) (ns : List Int), ns.length ≤ n → (∀ z ∈ ns, Builtin.Int.intBits z ≤ 1048576) → Only H → SqL K H a (ns.map V.int) → sp [.ref a] H (fun v _ => v = .bl true) fun _ _ _ => False) ∧
        ∀ base : Heap, K.In base → base.Ns mainGlobals mg → FnOk l.prog w K mg base CX k fa fd [x] sp)
    (hCX : ∀ (H : Hp) (s : Shared) (e : Value) (s' : Shared), CX [] H s (fun _ _ _ => False) e s' → False) :
    PySem.W.WalkO q loose XP YP l.row.toRowW d [] (fun f vs => PySem.call f vs) := by
  refine Att.attach_callB hn hdf fun w s₀ s₁ mg mb fa o pm cd doc a vs ns G Y ho hd hcd hmg hobj hints hlen hbits hg => ?_
  obtain ⟨K, fd, sp, KX, hb, hsp, hF⟩ := F w mg fa _ Y G.T.g hmg
  exact law_call KX G.T.g G.T.b G.T.builtins G.T.nolimit hg hobj hints (Nat.le_trans hlen hn2) hr hF hb (fun H hO hS => hsp H a ns hlen hbits hO hS) fun H e s' => hCX H s₁ e s'
theorem bits_lt {z : Int} (h : Builtin.Int.intBits z ≤ 1048576) : z.natAbs < 2 ^ 2000000 :=
  Nat.lt_of_lt_of_le (PySem.intBits_le_iff.mp h) (Nat.pow_le_pow_right (by decide) (by decide))
theorem sp_law {P : Program} {w : World} {K : PySem.W.Frag} {H : Hp} {a : Addr} {ns : List Int} (hl : ns.length ≤ 63) (hb : ∀ z ∈ ns, Builtin.Int.intBits z ≤ 1048576) (hS : SqL K H a (ns.map V.int)) (E : XK) : spC P w K 1 cLaw [.ref a] H (fun v _ => v = .bl true) E :=
  ⟨H, [.scr ns], fun d => d = .bl true, Same.refl H, .cons (.scr hS hl) .nil, rfl, ⟨ns, rfl, fun x hx => bits_lt (hb x hx), rfl⟩, fun d v F' H' hd _ hr => by
    subst hd
    cases hr
    rfl⟩
end W3
open PySem PySem.W PySem.Calls PyProof.Rows
theorem PySem.Challenge.cw_plainseams_k33_whole_cuts_holds : PySem.Challenge.rw_plainseams_k33_whole_cuts.Holds := by
  w_on; o_law
  refine HandSHeadRun.head_any (r := OpenLaw.row PySem.Challenge.rw_plainseams_k33_whole_cuts) (q := view (OpenLaw.row PySem.Challenge.rw_plainseams_k33_whole_cuts).prog [72]) (H := Hd.hk) (ob := Hd.ob) (M := 20000) (loose := Hd.loose) (d := HandSHeadRun.topDef (OpenLaw.row PySem.Challenge.rw_plainseams_k33_whole_cuts).prog 72) (kwd := []) Hd.ob_eq
    (by kernel_rfl) (fun s => by kernel_rfl) Hd.run (by kernel_rfl) (by kernel_rfl) (by kernel_rfl) (by rfl) (by first | assumption | decide +kernel) (by decide +kernel) ⟨rfl, rfl, rfl, rfl, rfl, by decide +kernel⟩ ?hw ?hc
  case hw => w_witness2
  case hc =>
    refine W3.walk_ofEB (l := PySem.Challenge.rw_plainseams_k33_whole_cuts) (n := 63) (k := 13) (x := "_law_script") (CX := L2.CX0) rfl (by decide) (by kernel_rfl) ⟨rfl, by decide, by decide⟩ ?F (fun _ _ _ _ z => z)
    intro w mg fa h Y G hmg0
    obtain ⟨K, KX, c⟩ := Y
    have hmg : mg ("law" : PySem.Str) = some (.ref fa) := by
      have e : (HandSHeadRun.topDef (OpenLaw.row PySem.Challenge.rw_plainseams_k33_whole_cuts).prog 72).name = ("law" : PySem.Str) := by kernel_rfl
      rw [← e]
      exact hmg0
    have e := hmg.symm.trans (W3.law_glo KX G c.t.d)
    cases e
    obtain ⟨fd, F, hb⟩ := W3.law_def c.t.d
    exact ⟨K, fd, W3.spC (PySem.Challenge.rw_plainseams_k33_whole_cuts).prog w K 1 W3.cLaw, KX, hb, fun H a ns hl hbits _ hS => W3.sp_law hl hbits hS _, fun base _ _ => W3.law_told ⟨(PySem.Challenge.rw_plainseams_k33_whole_cuts).prog, w, K, mg, base⟩ KX G c F⟩
